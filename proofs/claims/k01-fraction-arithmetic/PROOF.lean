import PyProof.Rows.All
import Wide.All
import OpenK.AllK
import Wide.FinOn
import HandS.ForMost
import HandS.ForExc
import HandS.Wide
import HandS.EndBits
import HandS.CallSlots
import HandS.IsInst
import HandS.Defaults
import PySem.Challenge.RW_onetelling_k01_fraction_arithmetic
set_option Elab.async false
set_option linter.all false
set_option maxRecDepth 100000
set_option maxHeartbeats 4000000
/-! Z0: plain data D, how it lies in the abstract heap (Rep), a frame's slots (Sl, EnvOk), how the heap goes on (Stp). -/
namespace Z
open PySem L2

inductive D where
  | non | bl (b : Bool) | int (i : Int) | str (x : Str)
  | tup (ds : List D) | lst (ds : List D)
  | obj (C : Addr) (ns : List Str) (ds : List D)
  | cls (a : Addr) | ty (n : String)
  | sto (cells : List Int)
  | scr (ns : List Int)

instance : Inhabited D := ⟨.non⟩

abbrev kS (x : Str) : Key := Sum.inr x
/-- the law's store: its six keys -/
def stoKeys : List Key := [kS "cells", kS "at", kS "rest", kS "left", kS "turn", kS "seed"]
def stoKvs (c : Addr) (a r l t s : Int) : List (Key × V) :=
  [(kS "cells", V.ref c), (kS "at", V.int a), (kS "rest", V.int r), (kS "left", V.int l), (kS "turn", V.int t), (kS "seed", V.int s)]
structure StoreAt (K : PySem.W.Frag) (G : Hp) (cells : List Int) (kvs : List (Key × V)) : Prop where
  ex : ∃ (c : Addr) (a r l t s : Int), kvs = stoKvs c a r l t s ∧
    G c = some (.lst (cells.map V.int)) ∧ cells.length ≤ 63 ∧ 0 ≤ a ∧ a ≤ cells.length ∧ 0 ≤ r ∧ r < 2 ^ 2560 ∧ (0 < l → cells ≠ [])
def stoC : HO → Option (Key × V)
  | .dK kvs => kvs.head?
  | _ => none
def isSto : HO → Prop
  | .dK kvs => kvs.map (·.1) = stoKeys
  | _ => False

def StoreOk (K : PySem.W.Frag) (G H : Hp) (cells : List Int) (a : Addr) : Prop := ∃ kvs, H a = some (.dK kvs) ∧ StoreAt K G cells kvs

mutual
def Rep (K : PySem.W.Frag) (G H : Hp) : D → V → Prop
  | .non, v => v = .non
  | .bl b, v => v = .bl b
  | .int i, v => v = .int i
  | .str x, v => v = .str x
  | .tup ds, v => ∃ a vs, v = .ref a ∧ SqT K G a vs ∧ RepL K G H ds vs
  | .lst ds, v => ∃ a vs, v = .ref a ∧ G a = some (.lst vs) ∧ RepL K G H ds vs
  | .obj C ns ds, v => ∃ a dx fs, v = .ref a ∧ G a = some (.ins C dx fs) ∧ fs.map (·.1) = ns ∧ RepL K G H ds (fs.map (·.2))
  | .cls a, v => v = .ref a
  | .ty n, v => v = .ty n
  | .sto cells, v => ∃ a, v = .ref a ∧ G a = none ∧ StoreOk K G H cells a
  | .scr ns, v => ∃ a, v = .ref a ∧ SqL K G a (ns.map V.int)
def RepL (K : PySem.W.Frag) (G H : Hp) : List D → List V → Prop
  | [], vs => vs = []
  | d :: ds, vs => ∃ v r, vs = v :: r ∧ Rep K G H d v ∧ RepL K G H ds r
end

/-- how the heap goes on: G (what never changes) grows; what is not in G stays, but for stores -/
structure Stp (K : PySem.W.Frag) (G H G' H' : Hp) : Prop where
  exG : Same G G'
  sub : Same G' H'
  own : ∀ a o, H a = some o → G a = none → G' a = none ∧ (H' a = some o ∨ (isSto o ∧ ∃ o', H' a = some o' ∧ (isSto o' ∧ stoC o' = stoC o) ∧ ∀ cells, StoreOk K G H cells a → StoreOk K G' H' cells a))

section
variable {K : PySem.W.Frag} {G H G' H' G2 H2 : Hp} {a : Addr} {o : HO}

theorem StoreAt.mono {cells : List Int} {kvs : List (Key × V)} (e : Same G G') (h : StoreAt K G cells kvs) : StoreAt K G' cells kvs := by
  obtain ⟨c, a, r, l, t, s, e1, h2, h3⟩ := h.ex
  exact ⟨c, a, r, l, t, s, e1, e _ _ h2, h3⟩

theorem StoreOk.at_ {cells : List Int} (e : Same G G') (h : StoreOk K G H cells a) (h1 : H a = some o) (h2 : H' a = some o) : StoreOk K G' H' cells a := by
  obtain ⟨kvs, q1, q2⟩ := h
  rw [q1] at h1
  cases h1
  exact ⟨kvs, h2, q2.mono e⟩
theorem StoreOk.stp (s : Stp K G H G' H') {a : Addr} {cells : List Int} (g : G a = none) (h : StoreOk K G H cells a) : StoreOk K G' H' cells a := by
  obtain ⟨kvs, h1, h2⟩ := id h
  rcases (s.own a _ h1 g).2 with q | ⟨_, o', q1, q2, q3⟩
  · exact ⟨kvs, q, h2.mono s.exG⟩
  · exact q3 cells h

theorem Stp.refl (e : Same G H) : Stp K G H G H := ⟨Same.refl G, e, fun a o h g => ⟨g, .inl h⟩⟩

theorem StoreOk.sto {cells : List Int} (h : StoreOk K G H cells a) (e : H a = some o) : isSto o := by
  obtain ⟨kvs, h1, h2⟩ := h
  rw [h1] at e
  cases e
  obtain ⟨c, a, r, l, t, s, e1, _⟩ := h2.ex
  subst e1
  rfl
theorem Stp.trans (a : Stp K G H G' H') (b : Stp K G' H' G2 H2) : Stp K G H G2 H2 := by
  refine ⟨a.exG.trans b.exG, b.sub, fun x o h g => ?_⟩
  obtain ⟨g', h'⟩ := a.own x o h g
  rcases h' with h' | ⟨h1, o', h2, h3, h4⟩
  · obtain ⟨g2, q⟩ := b.own x o h' g'
    refine ⟨g2, ?_⟩
    rcases q with q | ⟨q1, o2, q2, q3, q4⟩
    · exact .inl q
    · exact .inr ⟨q1, o2, q2, q3, fun cells z => q4 cells (z.at_ a.exG h h')⟩
  · obtain ⟨g2, q⟩ := b.own x o' h2 g'
    refine ⟨g2, ?_⟩
    rcases q with q | ⟨q1, o2, q2, q3, q4⟩
    · exact .inr ⟨h1, o', q, h3, fun cells z => (h4 cells z).at_ b.exG h2 q⟩
    · exact .inr ⟨h1, o2, q2, ⟨q3.1, q3.2.trans h3.2⟩, fun cells z => q4 cells (h4 cells z)⟩
theorem Stp.free (s : Stp K G H G' H') {p : Addr} (hp : H' p = none) : H p = none := by
  cases q : H p with
  | none => rfl
  | some o =>
    cases g : G p with
    | some u =>
      have := s.sub _ _ (s.exG _ _ g)
      rw [hp] at this; cases this
    | none =>
      rcases (s.own p o q g).2 with z | ⟨_, kv, z, _⟩
      · rw [hp] at z; cases z
      · rw [hp] at z; cases z
/-- only new things -/
theorem Stp.new (e : Same G H) {p : Addr} {o : HO} (h : H p = none) : Stp K G H (upd G p o) (upd H p o) := by
  have g : G p = none := e.free h
  refine ⟨fun b u q => ?_, fun b u q => ?_, fun b u q n => ?_⟩
  · rw [upd_ne (ne_of_none q g)]; exact q
  · by_cases z : b = p
    · subst z; rw [upd_same] at q ⊢; exact q
    · rw [upd_ne z] at q ⊢; exact e b u q
  · have z : b ≠ p := ne_of_none q h
    rw [upd_ne z, upd_ne z]
    exact ⟨n, .inl q⟩
/-- a new thing that is not in G -/
theorem Stp.newM (e : Same G H) {p : Addr} {o : HO} (h : H p = none) : Stp K G H G (upd H p o) := by
  have g : G p = none := e.free h
  refine ⟨Same.refl G, fun b u q => ?_, fun b u q n => ?_⟩
  · have z : b ≠ p := ne_of_none q g
    rw [upd_ne z]; exact e b u q
  · have z : b ≠ p := ne_of_none q h
    rw [upd_ne z]
    exact ⟨n, .inl q⟩
end

section
variable {K : PySem.W.Frag} {G H G' H' G2 H2 : Hp}
theorem Same.tup {a : Addr} {xs : List V} (e : Same G G') (h : SqT K G a xs) : SqT K G' a xs := by
  rcases h with (h | ⟨o, h⟩) | h
  · exact .inl (.inl (e _ _ h))
  · exact .inl (.inr ⟨o, e _ _ h⟩)
  · exact .inr h
/-- what Rep leans on -/
structure Mo (K : PySem.W.Frag) (G H G' H' : Hp) : Prop where
  exG : Same G G'
  sto : ∀ a cells, G a = none → StoreOk K G H cells a → G' a = none ∧ StoreOk K G' H' cells a
theorem Stp.mo (s : Stp K G H G' H') : Mo K G H G' H' := ⟨s.exG, fun a cells g h => by
  obtain ⟨kvs, h1, h2⟩ := id h
  exact ⟨(s.own a _ h1 g).1, h.stp s g⟩⟩
theorem Mo.refl : Mo K G H G H := ⟨Same.refl G, fun _ _ g h => ⟨g, h⟩⟩
theorem Mo.trans (a : Mo K G H G' H') (b : Mo K G' H' G2 H2) : Mo K G H G2 H2 := ⟨a.exG.trans b.exG, fun x c g h => b.sto x c (a.sto x c g h).1 (a.sto x c g h).2⟩
/-- an object of one's own is put among what never changes -/
theorem Mo.freeze {p : Addr} {vs : List V} (h : H p = some (.lst vs)) (g : G p = none) : Mo K G H (upd G p (.lst vs)) H := by
  have e : Same G (upd G p (.lst vs)) := fun b u q => by rw [upd_ne (ne_of_none q g)]; exact q
  refine ⟨e, fun a cells n q => ?_⟩
  obtain ⟨kvs, h1, h2⟩ := q
  have z : a ≠ p := by
    intro z
    subst z
    rw [h] at h1
    cases h1
  exact ⟨by rw [upd_ne z]; exact n, kvs, h1, h2.mono e⟩
theorem Stp.freeze {p : Addr} {vs : List V} (s : Stp K G H G' H') (hp : H p = none) (h : H' p = some (.lst vs)) (g : G' p = none) : Stp K G H (upd G' p (.lst vs)) H' := by
  have e : Same G' (upd G' p (.lst vs)) := fun b u q => by rw [upd_ne (ne_of_none q g)]; exact q
  refine ⟨s.exG.trans e, fun b u q => ?_, fun b u q n => ?_⟩
  · by_cases z : b = p
    · subst z; rw [upd_same] at q; cases q; exact h
    · rw [upd_ne z] at q; exact s.sub b u q
  · have z : b ≠ p := ne_of_none q hp
    obtain ⟨n', q'⟩ := s.own b u q n
    refine ⟨by rw [upd_ne z]; exact n', ?_⟩
    rcases q' with q' | ⟨q1, o', q2, q3, q4⟩
    · exact .inl q'
    · exact .inr ⟨q1, o', q2, q3, fun cells w => by
        obtain ⟨kvs, w1, w2⟩ := q4 cells w
        exact ⟨kvs, w1, w2.mono e⟩⟩
mutual
theorem Rep.mo (s : Mo K G H G' H') : ∀ {d : D} {v : V}, Rep K G H d v → Rep K G' H' d v
  | .non, v, h => by unfold Rep at h ⊢; exact h
  | .bl b, v, h => by unfold Rep at h ⊢; exact h
  | .int i, v, h => by unfold Rep at h ⊢; exact h
  | .str x, v, h => by unfold Rep at h ⊢; exact h
  | .tup ds, v, h => by
    unfold Rep at h ⊢
    obtain ⟨a, vs, e, h1, h2⟩ := h
    exact ⟨a, vs, e, Same.tup s.exG h1, RepL.mo s h2⟩
  | .lst ds, v, h => by
    unfold Rep at h ⊢
    obtain ⟨a, vs, e, h1, h2⟩ := h
    exact ⟨a, vs, e, s.exG _ _ h1, RepL.mo s h2⟩
  | .obj C ns ds, v, h => by
    unfold Rep at h ⊢
    obtain ⟨a, dx, fs, e, h1, h2, h3⟩ := h
    exact ⟨a, dx, fs, e, s.exG _ _ h1, h2, RepL.mo s h3⟩
  | .cls a, v, h => by unfold Rep at h ⊢; exact h
  | .ty n, v, h => by unfold Rep at h ⊢; exact h
  | .sto cells, v, h => by
    unfold Rep at h ⊢
    obtain ⟨a, e, g, h1⟩ := h
    obtain ⟨g', h2⟩ := s.sto a cells g h1
    exact ⟨a, e, g', h2⟩
  | .scr ns, v, h => by
    unfold Rep at h ⊢
    obtain ⟨a, e, h1⟩ := h
    exact ⟨a, e, Same.seq s.exG h1⟩
theorem RepL.mo (s : Mo K G H G' H') : ∀ {ds : List D} {vs : List V}, RepL K G H ds vs → RepL K G' H' ds vs
  | [], vs, h => by unfold RepL at h ⊢; exact h
  | d :: ds, vs, h => by
    unfold RepL at h ⊢
    obtain ⟨v, r, e, h1, h2⟩ := h
    exact ⟨v, r, e, Rep.mo s h1, RepL.mo s h2⟩
end
theorem Rep.mono (s : Stp K G H G' H') {d : D} {v : V} (h : Rep K G H d v) : Rep K G' H' d v := h.mo s.mo
theorem RepL.mono (s : Stp K G H G' H') {ds : List D} {vs : List V} (h : RepL K G H ds vs) : RepL K G' H' ds vs := h.mo s.mo
theorem RepL.length : ∀ {ds : List D} {vs : List V}, RepL K G H ds vs → vs.length = ds.length
  | [], vs, h => by unfold RepL at h; subst h; rfl
  | d :: ds, vs, h => by
    unfold RepL at h
    obtain ⟨v, r, e, h1, h2⟩ := h
    subst e
    simp [RepL.length h2]
theorem RepL.get : ∀ {ds : List D} {vs : List V} {i : Nat} {d : D}, RepL K G H ds vs → ds[i]? = some d → ∃ v, vs[i]? = some v ∧ Rep K G H d v
  | [], vs, i, d, h, e => by simp at e
  | d0 :: ds, vs, 0, d, h, e => by
    unfold RepL at h
    obtain ⟨v, r, e1, h1, h2⟩ := h
    simp at e
    subst e e1
    exact ⟨v, rfl, h1⟩
  | d0 :: ds, vs, i + 1, d, h, e => by
    unfold RepL at h
    obtain ⟨v, r, e1, h1, h2⟩ := h
    subst e1
    obtain ⟨u, q1, q2⟩ := RepL.get h2 (show ds[i]? = some d by simpa using e)
    exact ⟨u, by simpa using q1, q2⟩
theorem RepL.back : ∀ {ds : List D} {vs : List V} {i : Nat} {v : V}, RepL K G H ds vs → vs[i]? = some v → ∃ d, ds[i]? = some d ∧ Rep K G H d v := fun {ds vs i v} h e => by
  have hl := h.length
  have hi : i < vs.length := (List.getElem?_eq_some_iff.mp e).1
  have hi2 : i < ds.length := by omega
  obtain ⟨u, q1, q2⟩ := h.get (i := i) (d := ds[i]) (by simp [hi2])
  rw [e] at q1
  cases q1
  exact ⟨ds[i], by simp [hi2], q2⟩
theorem RepL.append : ∀ {ds : List D} {vs : List V} {es : List D} {us : List V}, RepL K G H ds vs → RepL K G H es us → RepL K G H (ds ++ es) (vs ++ us)
  | [], vs, es, us, h, h' => by unfold RepL at h; subst h; exact h'
  | d :: ds, vs, es, us, h, h' => by
    unfold RepL at h
    obtain ⟨v, r, e, h1, h2⟩ := h
    subst e
    show RepL K G H (d :: (ds ++ es)) (v :: (r ++ us))
    unfold RepL
    exact ⟨v, _, rfl, h1, RepL.append h2 h'⟩
theorem RepL.nil : RepL K G H [] [] := by unfold RepL; rfl
theorem RepL.cons {d : D} {v : V} {ds : List D} {vs : List V} (h : Rep K G H d v) (h' : RepL K G H ds vs) : RepL K G H (d :: ds) (v :: vs) := by
  unfold RepL; exact ⟨v, vs, rfl, h, h'⟩
theorem RepL.one {d : D} {v : V} (h : Rep K G H d v) : RepL K G H [d] [v] := .cons h .nil
theorem RepL.take : ∀ {ds : List D} {vs : List V} (n : Nat), RepL K G H ds vs → RepL K G H (ds.take n) (vs.take n)
  | [], vs, n, h => by unfold RepL at h; subst h; simp; exact .nil
  | d :: ds, vs, 0, h => by simp; exact .nil
  | d :: ds, vs, n + 1, h => by
    unfold RepL at h
    obtain ⟨v, r, e, h1, h2⟩ := h
    subst e
    exact .cons h1 (RepL.take n h2)
theorem RepL.drop : ∀ {ds : List D} {vs : List V} (n : Nat), RepL K G H ds vs → RepL K G H (ds.drop n) (vs.drop n)
  | [], vs, n, h => by unfold RepL at h; subst h; simp; exact .nil
  | d :: ds, vs, 0, h => h
  | d :: ds, vs, n + 1, h => by
    unfold RepL at h
    obtain ⟨v, r, e, h1, h2⟩ := h
    subst e
    exact RepL.drop n h2
theorem RepL.set : ∀ {ds : List D} {vs : List V} {d : D} {v : V} (n : Nat), RepL K G H ds vs → Rep K G H d v → RepL K G H (ds.set n d) (vs.set n v)
  | [], vs, d, v, n, h, _ => by unfold RepL at h; subst h; simp; exact .nil
  | _ :: ds, vs, d, v, 0, h, h' => by
    unfold RepL at h
    obtain ⟨u, r, e, h1, h2⟩ := h
    subst e
    exact .cons h' h2
  | _ :: ds, vs, d, v, n + 1, h, h' => by
    unfold RepL at h
    obtain ⟨u, r, e, h1, h2⟩ := h
    subst e
    exact .cons h1 (RepL.set n h2 h')
theorem RepL.ints : ∀ {ns : List Int} {vs : List V}, RepL K G H (ns.map D.int) vs → vs = ns.map V.int
  | [], vs, h => by unfold RepL at h; exact h
  | n :: ns, vs, h => by
    simp only [List.map_cons] at h ⊢
    unfold RepL Rep at h
    obtain ⟨v, r, e, h1, h2⟩ := h
    rw [e, h1, RepL.ints h2]
theorem RepL.ofInts : ∀ {ns : List Int}, RepL K G H (ns.map D.int) (ns.map V.int)
  | [] => .nil
  | n :: ns => .cons (by unfold Rep; rfl) RepL.ofInts
end

/-- what a slot of a frame holds: nothing known; data that never changes; a list of the frame's own -/
inductive Sl where
  | no | fz (d : D) | ow (ds : List D)
def SlOk (K : PySem.W.Frag) (G H H0 : Hp) : Sl → Option (Option V) → Prop
  | .no, _ => True
  | .fz d, o => ∃ v, o = some (some v) ∧ Rep K G H d v
  | .ow ds, o => ∃ p vs, o = some (some (.ref p)) ∧ H p = some (.lst vs) ∧ G p = none ∧ H0 p = none ∧ RepL K G H ds vs
structure EnvOk (K : PySem.W.Frag) (G H H0 : Hp) (σ : St) (δ : List Sl) : Prop where
  len : σ.length = δ.length
  at_ : ∀ (i : Nat) (s : Sl), δ[i]? = some s → SlOk K G H H0 s σ[i]?
  sep : ∀ (i j : Nat) (ds es : List D) (p : Addr), i ≠ j → δ[i]? = some (.ow ds) → δ[j]? = some (.ow es) → σ[i]? = some (some (.ref p)) → σ[j]? ≠ some (some (.ref p))
section
variable {K : PySem.W.Frag} {G H G' H' G2 H2 H0 : Hp} {σ : St} {δ : List Sl}
theorem SlOk.mono {s : Sl} {o : Option (Option V)} (t : Stp K G H G' H') (h : SlOk K G H H0 s o) : SlOk K G' H' H0 s o := by
  cases s with
  | no => trivial
  | fz d =>
    obtain ⟨v, e, r⟩ := h
    exact ⟨v, e, r.mono t⟩
  | ow ds =>
    obtain ⟨p, vs, e, h1, g, h0, r⟩ := h
    obtain ⟨g', q⟩ := t.own p _ h1 g
    rcases q with q | ⟨q, _⟩
    · exact ⟨p, vs, e, q, g', h0, r.mono t⟩
    · exact q.elim
theorem EnvOk.mono (t : Stp K G H G' H') (h : EnvOk K G H H0 σ δ) : EnvOk K G' H' H0 σ δ := ⟨h.len, fun i s e => (h.at_ i s e).mono t, h.sep⟩
theorem EnvOk.fz (h : EnvOk K G H H0 σ δ) {i : Nat} {d : D} (e : δ[i]? = some (.fz d)) : ∃ v, σ[i]? = some (some v) ∧ Rep K G H d v := h.at_ i _ e
theorem EnvOk.set (h : EnvOk K G H H0 σ δ) {i : Nat} {d : D} {v : V} (r : Rep K G H d v) : EnvOk K G H H0 (σ.set i (some v)) (δ.set i (.fz d)) := by
  refine ⟨by simp [h.len], fun j s e => ?_, fun j k ds es p hjk e1 e2 h1 h2 => ?_⟩
  · by_cases z : i = j
    · subst z
      have hi : i < δ.length := by
        have := (List.getElem?_eq_some_iff.mp e).1
        simpa using this
      rw [List.getElem?_set_self hi] at e
      cases e
      exact ⟨v, by rw [List.getElem?_set_self (by rw [h.len]; exact hi)], r⟩
    · rw [List.getElem?_set_ne z] at e ⊢
      exact h.at_ j s e
  · have n1 : i ≠ j := by
      intro z
      subst z
      have hi : i < δ.length := by
        have := (List.getElem?_eq_some_iff.mp e1).1
        simpa using this
      rw [List.getElem?_set_self hi] at e1
      cases e1
    have n2 : i ≠ k := by
      intro z
      subst z
      have hi : i < δ.length := by
        have := (List.getElem?_eq_some_iff.mp e2).1
        simpa using this
      rw [List.getElem?_set_self hi] at e2
      cases e2
    rw [List.getElem?_set_ne n1] at e1 h1
    rw [List.getElem?_set_ne n2] at e2 h2
    exact h.sep j k ds es p hjk e1 e2 h1 h2
/-- a slot forgotten -/
theorem EnvOk.forget (h : EnvOk K G H H0 σ δ) (i : Nat) (o : Option V) : EnvOk K G H H0 (σ.set i o) (δ.set i .no) := by
  refine ⟨by simp [h.len], fun j s e => ?_, fun j k ds es p hjk e1 e2 h1 h2 => ?_⟩
  · by_cases z : i = j
    · subst z
      have hi : i < δ.length := by
        have := (List.getElem?_eq_some_iff.mp e).1
        simpa using this
      rw [List.getElem?_set_self hi] at e
      cases e
      trivial
    · rw [List.getElem?_set_ne z] at e ⊢
      exact h.at_ j s e
  · have n1 : i ≠ j := by
      intro z
      subst z
      have hi : i < δ.length := by
        have := (List.getElem?_eq_some_iff.mp e1).1
        simpa using this
      rw [List.getElem?_set_self hi] at e1
      cases e1
    have n2 : i ≠ k := by
      intro z
      subst z
      have hi : i < δ.length := by
        have := (List.getElem?_eq_some_iff.mp e2).1
        simpa using this
      rw [List.getElem?_set_self hi] at e2
      cases e2
    rw [List.getElem?_set_ne n1] at e1 h1
    rw [List.getElem?_set_ne n2] at e2 h2
    exact h.sep j k ds es p hjk e1 e2 h1 h2
end
end Z
set_option Elab.async false
set_option linter.all false
set_option maxRecDepth 100000
set_option maxHeartbeats 4000000
/-! Z1: what a piece of code does to plain data: JE, JT, JA, JS .. over the program's own syntax; their rules. -/
namespace Z
open PySem L2

/-- what is known of a block's names: slots, scope, the names that may be read, that may be stored, the globals -/
structure Scp where
  N : List Str
  sc : Scope
  vs : List (Str × Nat)
  ss : List (Str × Nat)
  gl : List Str
  lv : Nat
/-- the surroundings of a body that runs -/
structure Cg where
  P : Program
  w : World
  K : PySem.W.Frag
  mg : Str → Option Value
  base : Heap
  G0 : Hp
  H0 : Hp
  ex : List Sl → Value → List Str → List D → Prop
  blk : Bool

structure Scp.Ok (S : Scp) : Prop where
  nd : S.N.Nodup
  vs : ∀ p ∈ S.vs, S.N[p.2]? = some p.1 ∧ Vis S.sc p.1
  ss : ∀ p ∈ S.ss, S.N[p.2]? = some p.1 ∧ Loc S.sc p.1
  gl : ∀ x ∈ S.gl, S.sc.names.lookup x = some .globalImplicit

/-- an exception's own fields -/
def XdOk (K : PySem.W.Frag) (G H : Hp) (d : Option Addr) (ns : List Str) (ds : List D) : Prop :=
  (ns = [] ∧ ds = []) ∨ ∃ dd fs, d = some dd ∧ G dd = some (.xd fs) ∧ fs.map (·.1) = ns ∧ RepL K G H ds (fs.map (·.2))
def wx (Γ : Cg) : WX := fun cls d σ H => ∃ G δ ns ds, Stp Γ.K Γ.G0 Γ.H0 G H ∧ EnvOk Γ.K G H Γ.H0 σ δ ∧ XdOk Γ.K G H d ns ds ∧ Γ.ex δ cls ns ds

structure COk (S : Scp) (Γ : Cg) (X : Cx) : Prop where
  so : S.Ok
  prog : X.prog = Γ.P
  w : X.w = Γ.w
  K : X.K = Γ.K
  mg : X.mg = Γ.mg
  base : X.base = Γ.base
  N : X.N = S.N
  sc : X.env.scope = S.sc
  calm : X.calm = true
  room : Room S.lv X.A
  st : ∀ x, x ∈ S.ss → X.fn x.1 = true ∨ X.env.scope.names.lookup x.1 = some .local
  def_ : Γ.blk = false → X.stack = X.env :: X.outer ∧ X.env.frame = some X.env.locals ∧ X.ex = [] ∧ PassesOwn (model X.prog X.w) X.A X.env X.xe
  tk : Takes X (wx Γ)

/-! ### the weakest readings -/
section
variable (X : Cx)
def wE (e : Expr) : TE := fun σ H Q => ∀ pins s, Inv X pins σ H s → wpAny (model X.prog X.w) X.A (eval e X.env) (EP X pins σ Q) X.xe s
def wT (e : Expr) : TT := fun σ H Q => ∀ pins s, Inv X pins σ H s → wpAny (model X.prog X.w) X.A (isTrue e X.env (eval e X.env)) (TP X pins σ Q) X.xe s
def wA (es : List Expr) : TA := fun σ H Q => ∀ pos pins s, Inv X pins σ H s → wpAny (model X.prog X.w) X.A (spliced (backTo pos (starEach es X.env))) (AP X pins σ Q) X.xe s
def wS (st : Stmt) : TS := fun D σ H => ∀ pins s, Inv X pins σ H s → wpAny (model X.prog X.w) X.A (exec st X.env) (SP X pins D) X.xe s
def wSs (st : List Stmt) : TS := fun D σ H => ∀ pins s, Inv X pins σ H s → wpAny (model X.prog X.w) X.A (execs st X.env) (SP X pins D) X.xe s
def wG (tg : Expr) : TG := fun v σ H Q => ∀ pins s u, Inv X pins σ H s → RelV v u → wpAny (model X.prog X.w) X.A (assign tg X.env u) (fun _ s' => ∃ σ' H', Inv X pins σ' H' s' ∧ Q σ' H') X.xe s
def wGs (ts : List Expr) : TGs := fun vs σ H Q => ∀ pins s us, Inv X pins σ H s → Vals vs us → wpAny (model X.prog X.w) X.A (assignInOrder ((assignEach ts X.env).map (·.2)) us) (fun _ s' => ∃ σ' H', Inv X pins σ' H' s' ∧ Q σ' H') X.xe s
def wO (f : Value → Value → Sem Value) : R2 := fun x y H Q => ∀ pins s σ v u, Inv X pins σ H s → RelV x v → RelV y u → wpAny (model X.prog X.w) X.A (f v u) (EP X pins σ Q) X.xe s
def wU (f : Value → Sem Value) : V → Hp → VK → Prop := fun x H Q => ∀ pins s σ v, Inv X pins σ H s → RelV x v → wpAny (model X.prog X.w) X.A (f v) (EP X pins σ Q) X.xe s
def wC (f : Value) : List V → Hp → VK → Prop := fun xs H Q => ∀ pins s σ us, Inv X pins σ H s → Vals xs us → wpAny (model X.prog X.w) X.A (call f us) (EP X pins σ Q) X.xe s
def wI (tg e : Expr) : TI := fun σ H R => ∀ pins s, Inv X pins σ H s → wpAny (model X.prog X.w) X.A (eval e X.env) (fun v s1 => wpAny (model X.prog X.w) X.A (pyIter v) (PIE X pins σ tg R) X.xe s1) X.xe s
def wX (f : Value → Value → Sem Value) : R2 := wO X f
end
section
variable {X : Cx} {e tg : Expr} {es : List Expr} {st : Stmt} {sts : List Stmt} {σ : St} {H : Hp}
theorem wE_pe : PE X e (wE X e) := ⟨fun pins s _ _ _ I h => h pins s I⟩
theorem wT_pt : PT X e (wT X e) := ⟨fun pins s _ _ _ I h => h pins s I⟩
theorem wA_pa : PA X es (wA X es) := ⟨fun pos pins s _ _ _ I h => h pos pins s I⟩
theorem wS_ps : PS X st (wS X st) := ⟨fun pins s _ _ _ I h => h pins s I⟩
theorem wSs_pss : PSs X sts (wSs X sts) := ⟨fun pins s _ _ _ I h => h pins s I⟩
theorem wG_pg : PG X tg (wG X tg) := ⟨fun pins s _ _ _ u _ I r h => h pins s u I r⟩
theorem wGs_pgs : PGs X es (wGs X es) := ⟨fun pins s _ _ _ u _ I r h => h pins s u I r⟩
theorem wI_pi : PI X tg e (wI X tg e) := ⟨fun pins s _ _ _ I h => h pins s I⟩
theorem wO_r {f : Value → Value → Sem Value} : OpR X f (wO X f) := fun pins s σ _ _ _ v u _ I r1 r2 h => h pins s σ v u I r1 r2
theorem wU_r {f : Value → Sem Value} : UnR X f (wU X f) := fun pins s σ _ _ v _ I r1 h => h pins s σ v I r1
theorem wC_r {f : Value} : CallR X f (wC X f) := fun pins s σ _ _ us _ I r1 h => h pins s σ us I r1
theorem PEw {t : TE} {Q : VK} (h : PE X e t) (q : t σ H Q) : wE X e σ H Q := fun pins s I => h.run pins s σ H Q I q
theorem PTw {t : TT} {Q : Bool → Hp → Prop} (h : PT X e t) (q : t σ H Q) : wT X e σ H Q := fun pins s I => h.run pins s σ H Q I q
theorem PAw {t : TA} {Q : List V → Hp → Prop} (h : PA X es t) (q : t σ H Q) : wA X es σ H Q := fun pos pins s I => h.run pos pins s σ H Q I q
theorem PSw {t : TS} {D : Ends} (h : PS X st t) (q : t D σ H) : wS X st D σ H := fun pins s I => h.run pins s σ H D I q
theorem PSsw {t : TS} {D : Ends} (h : PSs X sts t) (q : t D σ H) : wSs X sts D σ H := fun pins s I => h.run pins s σ H D I q
theorem PGw {t : TG} {v : V} {Q : St → Hp → Prop} (h : PG X tg t) (q : t v σ H Q) : wG X tg v σ H Q := fun pins s u I r => h.run pins s σ H v u Q I r q
theorem PGsw {t : TGs} {vs : List V} {Q : St → Hp → Prop} (h : PGs X es t) (q : t vs σ H Q) : wGs X es vs σ H Q := fun pins s u I r => h.run pins s σ H vs u Q I r q
theorem PIw {t : TI} {R : It → Hp → Prop} (h : PI X tg e t) (q : t σ H R) : wI X tg e σ H R := fun pins s I => h.run pins s σ H R I q
theorem OpRw {f : Value → Value → Sem Value} {r : R2} {x y : V} {Q : VK} (h : OpR X f r) (q : r x y H Q) : wO X f x y H Q := fun pins s σ v u I r1 r2 => h pins s σ H x y v u Q I r1 r2 q
theorem UnRw {f : Value → Sem Value} {r : V → Hp → VK → Prop} {x : V} {Q : VK} (h : UnR X f r) (q : r x H Q) : wU X f x H Q := fun pins s σ v I r1 => h pins s σ H x v Q I r1 q
theorem CallRw {f : Value} {r : List V → Hp → VK → Prop} {xs : List V} {Q : VK} (h : CallR X f r) (q : r xs H Q) : wC X f xs H Q := fun pins s σ us I r1 => h pins s σ H xs us Q I r1 q
end

/-! ### the judgements -/
section
variable (S : Scp) (Γ : Cg)
structure JE (e : Expr) (δ : List Sl) (P : D → Prop) : Prop where
  run : ∀ X, COk S Γ X → ∀ σ G H, Stp Γ.K Γ.G0 Γ.H0 G H → EnvOk Γ.K G H Γ.H0 σ δ → ∀ Q : VK, (∀ v G' H' d, Stp Γ.K G H G' H' → Rep Γ.K G' H' d v → P d → Q v H') → wE X e σ H Q
/-- a new list of one's own -/
structure JF (e : Expr) (δ : List Sl) (P : List D → Prop) : Prop where
  run : ∀ X, COk S Γ X → ∀ σ G H, Stp Γ.K Γ.G0 Γ.H0 G H → EnvOk Γ.K G H Γ.H0 σ δ → ∀ Q : VK, (∀ p vs G' H' ds, Stp Γ.K G H G' H' → H p = none → G' p = none → H' p = some (.lst vs) → RepL Γ.K G' H' ds vs → P ds → Q (.ref p) H') → wE X e σ H Q
structure JT (e : Expr) (δ : List Sl) (P : Bool → Prop) : Prop where
  run : ∀ X, COk S Γ X → ∀ σ G H, Stp Γ.K Γ.G0 Γ.H0 G H → EnvOk Γ.K G H Γ.H0 σ δ → ∀ Q : Bool → Hp → Prop, (∀ b G' H', Stp Γ.K G H G' H' → P b → Q b H') → wT X e σ H Q
structure JA (es : List Expr) (δ : List Sl) (P : List D → Prop) : Prop where
  run : ∀ X, COk S Γ X → ∀ σ G H, Stp Γ.K Γ.G0 Γ.H0 G H → EnvOk Γ.K G H Γ.H0 σ δ → ∀ Q : List V → Hp → Prop, (∀ vs G' H' ds, Stp Γ.K G H G' H' → RepL Γ.K G' H' ds vs → P ds → Q vs H') → wA X es σ H Q
structure OpD (f : Value → Value → Sem Value) (x y : D) (P : D → Prop) : Prop where
  run : ∀ X, COk S Γ X → ∀ v u G H, Stp Γ.K Γ.G0 Γ.H0 G H → Rep Γ.K G H x v → Rep Γ.K G H y u → ∀ Q : VK, (∀ z G' H' d, Stp Γ.K G H G' H' → Rep Γ.K G' H' d z → P d → Q z H') → wO X f v u H Q
structure UnD (f : Value → Sem Value) (x : D) (P : D → Prop) : Prop where
  run : ∀ X, COk S Γ X → ∀ v G H, Stp Γ.K Γ.G0 Γ.H0 G H → Rep Γ.K G H x v → ∀ Q : VK, (∀ z G' H' d, Stp Γ.K G H G' H' → Rep Γ.K G' H' d z → P d → Q z H') → wU X f v H Q
structure CallD (f : Value) (xs : List D) (P : D → Prop) : Prop where
  run : ∀ X, COk S Γ X → ∀ vs G H, Stp Γ.K Γ.G0 Γ.H0 G H → RepL Γ.K G H xs vs → ∀ Q : VK, (∀ z G' H' d, Stp Γ.K G H G' H' → Rep Γ.K G' H' d z → P d → Q z H') → wC X f vs H Q
structure Kp where
  nx : List Sl → Prop
  rt : D → Prop
  bk : List Sl → Prop := fun _ => False
  ct : List Sl → Prop := fun _ => False
structure EndOk (K : Kp) (De : Ends) (G H : Hp) : Prop where
  nx : ∀ σ' G' H' δ', Stp Γ.K Γ.G0 Γ.H0 G' H' → Mo Γ.K G H G' H' → EnvOk Γ.K G' H' Γ.H0 σ' δ' → K.nx δ' → De.nx σ' H'
  bk : ∀ σ' G' H' δ', Stp Γ.K Γ.G0 Γ.H0 G' H' → Mo Γ.K G H G' H' → EnvOk Γ.K G' H' Γ.H0 σ' δ' → K.bk δ' → De.bk σ' H'
  ct : ∀ σ' G' H' δ', Stp Γ.K Γ.G0 Γ.H0 G' H' → Mo Γ.K G H G' H' → EnvOk Γ.K G' H' Γ.H0 σ' δ' → K.ct δ' → De.ct σ' H'
  rt : ∀ v G' H' d, Stp Γ.K Γ.G0 Γ.H0 G' H' → Rep Γ.K G' H' d v → K.rt d → De.rt v H'
theorem EndOk.go {Γ : Cg} {K : Kp} {De : Ends} {G H G1 H1 : Hp} (en : EndOk Γ K De G H) (m : Mo Γ.K G H G1 H1) : EndOk Γ K De G1 H1 :=
  ⟨fun σ' G' H' δ' s m' => en.nx σ' G' H' δ' s (m.trans m'), fun σ' G' H' δ' s m' => en.bk σ' G' H' δ' s (m.trans m'), fun σ' G' H' δ' s m' => en.ct σ' G' H' δ' s (m.trans m'), en.rt⟩
structure JS (st : Stmt) (δ : List Sl) (K : Kp) : Prop where
  run : ∀ X, COk S Γ X → ∀ σ G H De, Stp Γ.K Γ.G0 Γ.H0 G H → EnvOk Γ.K G H Γ.H0 σ δ → EndOk Γ K De G H → wS X st De σ H
structure JSs (st : List Stmt) (δ : List Sl) (K : Kp) : Prop where
  run : ∀ X, COk S Γ X → ∀ σ G H De, Stp Γ.K Γ.G0 Γ.H0 G H → EnvOk Γ.K G H Γ.H0 σ δ → EndOk Γ K De G H → wSs X st De σ H
structure JG (tg : Expr) (d : D) (δ : List Sl) (P : List Sl → Prop) : Prop where
  run : ∀ X, COk S Γ X → ∀ v σ G H, Stp Γ.K Γ.G0 Γ.H0 G H → EnvOk Γ.K G H Γ.H0 σ δ → Rep Γ.K G H d v → ∀ Q : St → Hp → Prop, (∀ σ' G' H' δ', Stp Γ.K G H G' H' → EnvOk Γ.K G' H' Γ.H0 σ' δ' → P δ' → Q σ' H') → wG X tg v σ H Q
structure JGs (tgs : List Expr) (ds : List D) (δ : List Sl) (P : List Sl → Prop) : Prop where
  run : ∀ X, COk S Γ X → ∀ vs σ G H, Stp Γ.K Γ.G0 Γ.H0 G H → EnvOk Γ.K G H Γ.H0 σ δ → RepL Γ.K G H ds vs → ∀ Q : St → Hp → Prop, (∀ σ' G' H' δ', Stp Γ.K G H G' H' → EnvOk Γ.K G' H' Γ.H0 σ' δ' → P δ' → Q σ' H') → wGs X tgs vs σ H Q
end

section
variable {S : Scp} {Γ : Cg} {δ : List Sl} {P : D → Prop} {PB : Bool → Prop} {PL : List D → Prop} {K : Kp} {a b c e : Expr} {es rest : List Expr} {pos : Pos}

theorem Stp.same {K : PySem.W.Frag} {G H G' H' : Hp} (s : Stp K G H G' H') : Same G' H' := s.sub

/-! ### expressions -/
theorem je_name {x : Str} {i : Nat} {d : D} (hv : (x, i) ∈ S.vs) (hδ : δ[i]? = some (.fz d)) (h : P d) (hd : (x == ("__debug__" : Str)) = false := by decide) (hcd : (x == ("__classdict__" : Str)) = false := by decide) : JE S Γ (.Name x pos) δ P := by
  refine ⟨fun X hX σ G H st ev Q k => ?_⟩
  obtain ⟨h1, h2⟩ := hX.so.vs _ hv
  obtain ⟨v, e, r⟩ := ev.fz hδ
  exact PEw (pe_var (by rw [hX.N]; exact h1) (by rw [hX.sc]; exact h2) hd hcd) ⟨v, e, k v G H d (.refl st.sub) r h⟩
theorem rep_int {K : PySem.W.Frag} {G H : Hp} {i : Int} : Rep K G H (.int i) (.int i) := by unfold Rep; rfl
theorem rep_bl {K : PySem.W.Frag} {G H : Hp} {i : Bool} : Rep K G H (.bl i) (.bl i) := by unfold Rep; rfl
theorem rep_non {K : PySem.W.Frag} {G H : Hp} : Rep K G H .non .non := by unfold Rep; rfl
theorem rep_str {K : PySem.W.Frag} {G H : Hp} {x : Str} : Rep K G H (.str x) (.str x) := by unfold Rep; rfl
theorem je_int {i : Int} {j : Nat} (h : P (.int i)) : JE S Γ (.Constant (.int i) j pos) δ P := ⟨fun X hX σ G H st ev Q k => PEw pe_int (k _ G H _ (.refl st.sub) rep_int h)⟩
theorem je_bl {i : Bool} {j : Nat} (h : P (.bl i)) : JE S Γ (.Constant (.bool i) j pos) δ P := ⟨fun X hX σ G H st ev Q k => PEw pe_bl (k _ G H _ (.refl st.sub) rep_bl h)⟩
theorem je_non {j : Nat} (h : P .non) : JE S Γ (.Constant .none j pos) δ P := ⟨fun X hX σ G H st ev Q k => PEw pe_non (k _ G H _ (.refl st.sub) rep_non h)⟩
theorem je_str {x : Str} {j : Nat} (h : P (.str x)) : JE S Γ (.Constant (.str x) j pos) δ P := ⟨fun X hX σ G H st ev Q k => PEw pe_str (k _ G H _ (.refl st.sub) rep_str h)⟩
/-- a global of the module that is a known address (a class, a def) -/
theorem je_globA {x : Str} {A : Addr} (hg : x ∈ S.gl) (hm : Γ.mg x = some (.ref A)) (h : P (.cls A)) (hd : (x == ("__debug__" : Str)) = false := by decide) : JE S Γ (.Name x pos) δ P := by
  refine ⟨fun X hX σ G H st ev Q k => ?_⟩
  have hk : Gl X x := by show X.env.scope.names.lookup x = _; rw [hX.sc]; exact hX.so.gl x hg
  exact PEw (pe_glob (v := .ref A) hk (by rw [hX.mg]; exact hm) rfl hd) (k _ G H _ (.refl st.sub) (by unfold Rep; rfl) h)
theorem je_globT {x : Str} {T : String} (hg : x ∈ S.gl) (hm : Γ.mg x = none) (hb : bootBuiltins x = some (.type T)) (h : P (.ty T)) (hn : x ≠ "__name__" := by decide) (hd : (x == ("__debug__" : Str)) = false := by decide) : JE S Γ (.Name x pos) δ P := by
  refine ⟨fun X hX σ G H st ev Q k => ?_⟩
  have hk : Gl X x := by show X.env.scope.names.lookup x = _; rw [hX.sc]; exact hX.so.gl x hg
  exact PEw (pe_bltn (v := .ty T) hk (by rw [hX.mg]; exact hm) hb rfl hn hd) (k _ G H _ (.refl st.sub) (by unfold Rep; rfl) h)
theorem je_bin {op : Operator} (h : JE S Γ a δ fun x => JE S Γ b δ fun y => OpD S Γ (binaryOp op) x y P) : JE S Γ (.BinOp a op b pos) δ P := by
  refine ⟨fun X hX σ G H st ev Q k => ?_⟩
  refine PEw (pe_op wO_r wE_pe wE_pe) ?_
  refine h.run X hX σ G H st ev _ fun v G1 H1 x s1 r1 h1 => ?_
  refine h1.run X hX σ G1 H1 (st.trans s1) (ev.mono s1) _ fun u G2 H2 y s2 r2 h2 => ?_
  exact h2.run X hX v u G2 H2 ((st.trans s1).trans s2) (r1.mono s2) r2 Q fun z G' H' d s r p => k z G' H' d ((s1.trans s2).trans s) r p
theorem je_un {op : UnaryOp} (h : JE S Γ a δ fun x => UnD S Γ (unaryOp op) x P) : JE S Γ (.UnaryOp op a pos) δ P := by
  refine ⟨fun X hX σ G H st ev Q k => ?_⟩
  refine PEw (pe_un wU_r wE_pe) ?_
  refine h.run X hX σ G H st ev _ fun v G1 H1 x s1 r1 h1 => ?_
  exact h1.run X hX v G1 H1 (st.trans s1) r1 Q fun z G' H' d s r p => k z G' H' d (s1.trans s) r p
theorem je_cmp {op : CmpOp} (hm : behindInMarks op b = false) (h : JE S Γ a δ fun x => JE S Γ b δ fun y => OpD S Γ (compareOp op) x y P) : JE S Γ (.Compare a [op] [b] pos) δ P := by
  refine ⟨fun X hX σ G H st ev Q k => ?_⟩
  refine PEw (pe_cmpR wO_r wE_pe wE_pe hm) ?_
  refine h.run X hX σ G H st ev _ fun v G1 H1 x s1 r1 h1 => ?_
  refine h1.run X hX σ G1 H1 (st.trans s1) (ev.mono s1) _ fun u G2 H2 y s2 r2 h2 => ?_
  exact h2.run X hX v u G2 H2 ((st.trans s1).trans s2) (r1.mono s2) r2 Q fun z G' H' d s r p => k z G' H' d ((s1.trans s2).trans s) r p
def isBl (P : Bool → Prop) (d : D) : Prop := match d with | .bl b => P b | _ => False
theorem isBl_v {K : PySem.W.Frag} {G H : Hp} {PB : Bool → Prop} {d : D} {v : V} (h : isBl PB d) (r : Rep K G H d v) : ∃ b, v = .bl b ∧ d = .bl b ∧ PB b := by
  cases d <;> first | exact h.elim | skip
  unfold Rep at r
  exact ⟨_, r, rfl, h⟩
theorem jt_cmp {op : CmpOp} (hm : behindInMarks op b = false) (h : JE S Γ a δ fun x => JE S Γ b δ fun y => OpD S Γ (compareOp op) x y (isBl PB)) : JT S Γ (.Compare a [op] [b] pos) δ PB := by
  refine ⟨fun X hX σ G H st ev Q k => ?_⟩
  refine PTw (pt_cmpR wO_r wE_pe wE_pe hm) ?_
  refine h.run X hX σ G H st ev _ fun v G1 H1 x s1 r1 h1 => ?_
  refine h1.run X hX σ G1 H1 (st.trans s1) (ev.mono s1) _ fun u G2 H2 y s2 r2 h2 => ?_
  refine h2.run X hX v u G2 H2 ((st.trans s1).trans s2) (r1.mono s2) r2 _ fun z G' H' d s r p => ?_
  obtain ⟨bb, e1, e2, q⟩ := isBl_v p r
  exact ⟨bb, e1, k bb G' H' ((s1.trans s2).trans s) q⟩
/-- a op1 b op2 c -/
theorem jt_chain {op op' : CmpOp} (hm : lastMarks [op, op'] [b, c] = false)
    (h : JE S Γ a δ fun x => JE S Γ b δ fun y => OpD S Γ (compareOp op) x y (isBl fun t => if t = true then JE S Γ c δ fun z => OpD S Γ (compareOp op') y z (isBl PB) else PB false)) : JT S Γ (.Compare a [op, op'] [b, c] pos) δ PB := by
  refine ⟨fun X hX σ G H st ev Q k => ?_⟩
  refine PTw (pt_chain wO_r wO_r wE_pe wE_pe wE_pe hm) ?_
  refine h.run X hX σ G H st ev _ fun v G1 H1 x s1 r1 h1 => ?_
  refine h1.run X hX σ G1 H1 (st.trans s1) (ev.mono s1) _ fun u G2 H2 y s2 r2 h2 => ?_
  refine h2.run X hX v u G2 H2 ((st.trans s1).trans s2) (r1.mono s2) r2 _ fun z G3 H3 d s r p => ?_
  obtain ⟨bb, e1, e2, q⟩ := isBl_v p r
  refine ⟨bb, e1, ?_⟩
  cases bb with
  | false => exact L2.iteF ⟨false, rfl, k false G3 H3 ((s1.trans s2).trans s) q⟩
  | true =>
    refine L2.iteT ?_
    refine q.run X hX σ G3 H3 (((st.trans s1).trans s2).trans s) (((ev.mono s1).mono s2).mono s) _ fun z' G4 H4 d4 s4 r4 h4 => ?_
    refine h4.run X hX u z' G4 H4 ((((st.trans s1).trans s2).trans s).trans s4) ((r2.mono s).mono s4) r4 _ fun z5 G5 H5 d5 s5 r5 p5 => ?_
    obtain ⟨b5, e5, _, q5⟩ := isBl_v p5 r5
    exact ⟨b5, e5, k b5 G5 H5 ((((s1.trans s2).trans s).trans s4).trans s5) q5⟩
theorem je_chain {op op' : CmpOp} (hm : lastMarks [op, op'] [b, c] = false)
    (h : JE S Γ a δ fun x => JE S Γ b δ fun y => OpD S Γ (compareOp op) x y (isBl fun t => if t = true then JE S Γ c δ fun z => OpD S Γ (compareOp op') y z P else P (.bl false))) : JE S Γ (.Compare a [op, op'] [b, c] pos) δ P := by
  refine ⟨fun X hX σ G H st ev Q k => ?_⟩
  refine PEw (pe_chain wO_r wO_r wE_pe wE_pe wE_pe hm) ?_
  refine h.run X hX σ G H st ev _ fun v G1 H1 x s1 r1 h1 => ?_
  refine h1.run X hX σ G1 H1 (st.trans s1) (ev.mono s1) _ fun u G2 H2 y s2 r2 h2 => ?_
  refine h2.run X hX v u G2 H2 ((st.trans s1).trans s2) (r1.mono s2) r2 _ fun z G3 H3 d s r p => ?_
  obtain ⟨bb, e1, e2, q⟩ := isBl_v p r
  refine ⟨bb, e1, ?_⟩
  cases bb with
  | false => exact L2.iteF (k _ G3 H3 _ ((s1.trans s2).trans s) rep_bl q)
  | true =>
    refine L2.iteT ?_
    refine q.run X hX σ G3 H3 (((st.trans s1).trans s2).trans s) (((ev.mono s1).mono s2).mono s) _ fun z' G4 H4 d4 s4 r4 h4 => ?_
    exact h4.run X hX u z' G4 H4 ((((st.trans s1).trans s2).trans s).trans s4) ((r2.mono s).mono s4) r4 _ fun z5 G5 H5 d5 s5 r5 p5 => k z5 G5 H5 d5 ((((s1.trans s2).trans s).trans s4).trans s5) r5 p5
/-- a test by a bool value -/
theorem jt_val (h : JE S Γ e δ (isBl PB)) (he : ∀ env whole, isTrue e env whole = (do let v ← whole; standAt e.pos; holding [v] (truthy v))) : JT S Γ e δ PB := by
  refine ⟨fun X hX σ G H st ev Q k => ?_⟩
  refine PTw (pt_val wE_pe (he _)) ?_
  refine h.run X hX σ G H st ev _ fun v G1 H1 x s1 r1 h1 => ?_
  obtain ⟨bb, e1, e2, q⟩ := isBl_v h1 r1
  exact ⟨bb, e1, k bb G1 H1 s1 q⟩
theorem jt_not (h : JT S Γ a δ fun t => PB (!t)) : JT S Γ (.UnaryOp .Not a pos) δ PB := by
  refine ⟨fun X hX σ G H st ev Q k => ?_⟩
  refine PTw (pt_not wT_pt) ?_
  exact h.run X hX σ G H st ev _ fun b G1 H1 s1 p => k (!b) G1 H1 s1 p
theorem jt_and1 (h : JT S Γ a δ PB) : JT S Γ (.BoolOp .And [a] pos) δ PB := by
  refine ⟨fun X hX σ G H st ev Q k => ?_⟩
  exact PTw (pw_and1 wT_pt).pt (h.run X hX σ G H st ev Q k)
theorem jt_or1 (h : JT S Γ a δ PB) : JT S Γ (.BoolOp .Or [a] pos) δ PB := by
  refine ⟨fun X hX σ G H st ev Q k => ?_⟩
  exact PTw (pw_or1 wT_pt).pt (h.run X hX σ G H st ev Q k)
/-- and / or: the rest is asked as a whole of its own -/
def wTw (X : Cx) (e : Expr) : TT := fun σ H Q => ∀ (whole : Sem Value) pins s, Inv X pins σ H s → wpAny (model X.prog X.w) X.A (isTrue e X.env whole) (TP X pins σ Q) X.xe s
structure JW (S : Scp) (Γ : Cg) (e : Expr) (δ : List Sl) (P : Bool → Prop) : Prop where
  run : ∀ X, COk S Γ X → ∀ σ G H, Stp Γ.K Γ.G0 Γ.H0 G H → EnvOk Γ.K G H Γ.H0 σ δ → ∀ Q : Bool → Hp → Prop, (∀ b G' H', Stp Γ.K G H G' H' → P b → Q b H') → wTw X e σ H Q
theorem wTw_pw {X : Cx} : PW X e (wTw X e) := ⟨fun wh pins s _ _ _ I h => h wh pins s I⟩
theorem jw_t (h : JW S Γ e δ PB) : JT S Γ e δ PB := ⟨fun X hX σ G H st ev Q k pins s I => h.run X hX σ G H st ev Q k _ pins s I⟩
theorem jw_and1 (h : JT S Γ a δ PB) : JW S Γ (.BoolOp .And [a] pos) δ PB := by
  refine ⟨fun X hX σ G H st ev Q k wh pins s I => ?_⟩
  exact (pw_and1 wT_pt).run wh pins s σ H Q I (h.run X hX σ G H st ev Q k)
theorem jw_or1 (h : JT S Γ a δ PB) : JW S Γ (.BoolOp .Or [a] pos) δ PB := by
  refine ⟨fun X hX σ G H st ev Q k wh pins s I => ?_⟩
  exact (pw_or1 wT_pt).run wh pins s σ H Q I (h.run X hX σ G H st ev Q k)
theorem jw_and (h : JT S Γ a δ fun t => if t = true then JW S Γ (.BoolOp .And (b :: rest) pos) δ PB else PB false) : JW S Γ (.BoolOp .And (a :: b :: rest) pos) δ PB := by
  refine ⟨fun X hX σ G H st ev Q k wh pins s I => ?_⟩
  refine (pw_and wT_pt wTw_pw).run wh pins s σ H Q I ?_
  refine h.run X hX σ G H st ev _ fun t G1 H1 s1 p => ?_
  cases t with
  | false => exact L2.iteF (k _ G1 H1 s1 p)
  | true => exact L2.iteT ((show JW _ _ _ _ _ from p).run X hX σ G1 H1 (st.trans s1) (ev.mono s1) Q fun b G2 H2 s2 q => k b G2 H2 (s1.trans s2) q)
theorem jw_or (h : JT S Γ a δ fun t => if t = true then PB true else JW S Γ (.BoolOp .Or (b :: rest) pos) δ PB) : JW S Γ (.BoolOp .Or (a :: b :: rest) pos) δ PB := by
  refine ⟨fun X hX σ G H st ev Q k wh pins s I => ?_⟩
  refine (pw_or wT_pt wTw_pw).run wh pins s σ H Q I ?_
  refine h.run X hX σ G H st ev _ fun t G1 H1 s1 p => ?_
  cases t with
  | true => exact L2.iteT (k _ G1 H1 s1 p)
  | false => exact L2.iteF ((show JW _ _ _ _ _ from p).run X hX σ G1 H1 (st.trans s1) (ev.mono s1) Q fun b G2 H2 s2 q => k b G2 H2 (s1.trans s2) q)
/-! .. as values -/
theorem je_one {op : BoolOp} (h : JE S Γ a δ P) : JE S Γ (.BoolOp op [a] pos) δ P := ⟨fun X hX σ G H st ev Q k => PEw (pe_one wE_pe) (h.run X hX σ G H st ev Q k)⟩
theorem je_and (h : JE S Γ a δ (isBl fun t => if t = true then JE S Γ (.BoolOp .And (b :: rest) pos) δ P else P (.bl false))) : JE S Γ (.BoolOp .And (a :: b :: rest) pos) δ P := by
  refine ⟨fun X hX σ G H st ev Q k => ?_⟩
  refine PEw (pe_and wE_pe wE_pe) ?_
  refine h.run X hX σ G H st ev _ fun v G1 H1 x s1 r1 h1 => ?_
  obtain ⟨bb, e1, e2, q⟩ := isBl_v h1 r1
  refine ⟨bb, e1, ?_⟩
  cases bb with
  | false => exact L2.iteF (k _ G1 H1 _ s1 rep_bl q)
  | true => exact L2.iteT ((show JE _ _ _ _ _ from q).run X hX σ G1 H1 (st.trans s1) (ev.mono s1) Q fun v G2 H2 d s2 r p => k v G2 H2 d (s1.trans s2) r p)
theorem je_or (h : JE S Γ a δ (isBl fun t => if t = true then P (.bl true) else JE S Γ (.BoolOp .Or (b :: rest) pos) δ P)) : JE S Γ (.BoolOp .Or (a :: b :: rest) pos) δ P := by
  refine ⟨fun X hX σ G H st ev Q k => ?_⟩
  refine PEw (pe_or wE_pe wE_pe) ?_
  refine h.run X hX σ G H st ev _ fun v G1 H1 x s1 r1 h1 => ?_
  obtain ⟨bb, e1, e2, q⟩ := isBl_v h1 r1
  refine ⟨bb, e1, ?_⟩
  cases bb with
  | true => exact L2.iteT (k _ G1 H1 _ s1 rep_bl q)
  | false => exact L2.iteF ((show JE _ _ _ _ _ from q).run X hX σ G1 H1 (st.trans s1) (ev.mono s1) Q fun v G2 H2 d s2 r p => k v G2 H2 d (s1.trans s2) r p)
theorem je_not (h : JE S Γ a δ (isBl fun t => P (.bl (!t)))) : JE S Γ (.UnaryOp .Not a pos) δ P := by
  refine ⟨fun X hX σ G H st ev Q k => ?_⟩
  refine PEw (L2.pe_not wE_pe) ?_
  refine h.run X hX σ G H st ev _ fun v G1 H1 x s1 r1 h1 => ?_
  obtain ⟨bb, e1, e2, q⟩ := isBl_v h1 r1
  exact ⟨bb, e1, k _ G1 H1 _ s1 rep_bl q⟩
theorem je_if (h : JT S Γ c δ fun t => if t = true then JE S Γ a δ P else JE S Γ b δ P) : JE S Γ (.IfExp c a b pos) δ P := by
  refine ⟨fun X hX σ G H st ev Q k => ?_⟩
  refine PEw (pe_ifExp wT_pt wE_pe wE_pe) ?_
  refine h.run X hX σ G H st ev _ fun t G1 H1 s1 p => ?_
  cases t with
  | true => exact L2.iteT ((show JE _ _ _ _ _ from p).run X hX σ G1 H1 (st.trans s1) (ev.mono s1) Q fun v G2 H2 d s2 r p => k v G2 H2 d (s1.trans s2) r p)
  | false => exact L2.iteF ((show JE _ _ _ _ _ from p).run X hX σ G1 H1 (st.trans s1) (ev.mono s1) Q fun v G2 H2 d s2 r p => k v G2 H2 d (s1.trans s2) r p)

/-! ### argument lists, displays -/
theorem ja_nil (h : PL []) : JA S Γ [] δ PL := ⟨fun X hX σ G H st ev Q k => PAw pa_nil (k _ G H _ (.refl st.sub) .nil h)⟩
theorem ja_cons (hs : ∀ env, starEach (e :: es) env = (false, eval e env) :: starEach es env) (h : JE S Γ e δ fun d => JA S Γ es δ fun ds => PL (d :: ds)) : JA S Γ (e :: es) δ PL := by
  refine ⟨fun X hX σ G H st ev Q k => ?_⟩
  refine PAw (pa_cons wE_pe wA_pa (hs _)) ?_
  refine h.run X hX σ G H st ev _ fun v G1 H1 x s1 r1 h1 => ?_
  refine h1.run X hX σ G1 H1 (st.trans s1) (ev.mono s1) _ fun vs G2 H2 ds s2 r2 h2 => ?_
  exact k _ G2 H2 _ (s1.trans s2) (.cons (r1.mono s2) r2) h2
theorem je_tup {k : Nat} (h : JA S Γ es δ fun ds => ds.length ≤ sizeLine ∧ P (.tup ds)) : JE S Γ (.Tuple es k pos) δ P := by
  refine ⟨fun X hX σ G H st ev Q kk => ?_⟩
  refine PEw (pe_tup wA_pa) ?_
  refine h.run X hX σ G H st ev _ fun vs G1 H1 ds s1 r1 h1 => ?_
  refine ⟨by rw [r1.length]; exact h1.1, fun p hp => ?_⟩
  have s2 : Stp Γ.K G1 H1 (upd G1 p (.tup vs)) (upd H1 p (.tup vs)) := .new s1.sub hp
  refine kk _ _ _ (.tup ds) (s1.trans s2) ?_ h1.2
  unfold Rep
  exact ⟨p, vs, rfl, .inl (.inl upd_same), r1.mono s2⟩
theorem jf_lst (h : JA S Γ es δ fun ds => ds.length ≤ sizeLine ∧ PL ds) : JF S Γ (.List es pos) δ PL := by
  refine ⟨fun X hX σ G H st ev Q kk => ?_⟩
  refine PEw (pe_lst wA_pa) ?_
  refine h.run X hX σ G H st ev _ fun vs G1 H1 ds s1 r1 h1 => ?_
  refine ⟨by rw [r1.length]; exact h1.1, fun p hp => ?_⟩
  have s2 : Stp Γ.K G1 H1 G1 (upd H1 p (.lst vs)) := .newM s1.sub hp
  exact kk p vs G1 _ ds (s1.trans s2) (s1.free hp) (s1.sub.free hp) upd_same (r1.mono s2) h1.2
/-- a new list, never changed afterwards -/
theorem jf_je (h : JF S Γ e δ fun ds => P (.lst ds)) : JE S Γ e δ P := by
  refine ⟨fun X hX σ G H st ev Q kk => ?_⟩
  refine h.run X hX σ G H st ev _ fun p vs G1 H1 ds s1 hp gp h1 r h2 => ?_
  refine kk _ _ _ (.lst ds) (s1.freeze hp h1 gp) ?_ h2
  unfold Rep
  exact ⟨p, vs, rfl, upd_same, r.mo (.freeze h1 gp)⟩
end
end Z
set_option Elab.async false
set_option linter.all false
set_option maxRecDepth 100000
set_option maxHeartbeats 4000000
/-! Z2: subscripts, operations, built-in calls, calls of defs. -/
namespace Z
open PySem L2

section
variable {S : Scp} {Γ : Cg} {δ : List Sl} {P : D → Prop} {PB : Bool → Prop} {PL : List D → Prop} {a b c e : Expr} {es rest : List Expr} {pos : Pos}

/-! ### a[b] -/
def wIx (X : Cx) : R2 := fun x y H Q => ∀ (value slice : Expr) pins s σ v u, Inv X pins σ H s → RelV x v → RelV y u → subscripted slice false v u = operate [v, u] (getItem v u) → wpAny (model X.prog X.w) X.A (PyProof.Rows.subscriptTail value slice v u) (EP X pins σ Q) X.xe s
theorem wIx_r {X : Cx} : IxR X (wIx X) := fun value slice pins s σ _ _ _ v u _ I r1 r2 h hs => h value slice pins s σ v u I r1 r2 hs
theorem IxRw {X : Cx} {r : R2} {x y : V} {H : Hp} {Q : VK} (h : IxR X r) (q : r x y H Q) : wIx X x y H Q := fun value slice pins s σ v u I r1 r2 hs => h value slice pins s σ H x y v u Q I r1 r2 q hs
structure IxD (S : Scp) (Γ : Cg) (x y : D) (P : D → Prop) : Prop where
  run : ∀ X, COk S Γ X → ∀ v u G H, Stp Γ.K Γ.G0 Γ.H0 G H → Rep Γ.K G H x v → Rep Γ.K G H y u → ∀ Q : VK, (∀ z G' H' d, Stp Γ.K G H G' H' → Rep Γ.K G' H' d z → P d → Q z H') → wIx X v u H Q
theorem je_ix (hs : PlainIx b) (h : JE S Γ a δ fun x => JE S Γ b δ fun y => IxD S Γ x y P) : JE S Γ (.Subscript a b pos) δ P := by
  refine ⟨fun X hX σ G H st ev Q k => ?_⟩
  refine PEw (pe_ix wIx_r wE_pe wE_pe hs) ?_
  refine h.run X hX σ G H st ev _ fun v G1 H1 x s1 r1 h1 => ?_
  refine h1.run X hX σ G1 H1 (st.trans s1) (ev.mono s1) _ fun u G2 H2 y s2 r2 h2 => ?_
  exact h2.run X hX v u G2 H2 ((st.trans s1).trans s2) (r1.mono s2) r2 Q fun z G' H' d s r p => k z G' H' d ((s1.trans s2).trans s) r p
theorem RepL.atI {K : PySem.W.Frag} {G H : Hp} {ds : List D} {vs : List V} {i : Int} {d : D} (h : RepL K G H ds vs) (e : L2.atI ds i = some d) : ∃ v, L2.atI vs i = some v ∧ Rep K G H d v := by
  unfold L2.atI at e ⊢
  rw [h.length]
  cases q : ixN ds.length i with
  | none => rw [q] at e; cases e
  | some j =>
    rw [q] at e
    exact h.get (show ds[j]? = some d from e)
theorem ixd_tup {ds : List D} {i : Int} {d : D} (e : L2.atI ds i = some d) (h : P d) : IxD S Γ (.tup ds) (.int i) P := by
  refine ⟨fun X hX v u G H st r1 r2 Q k => ?_⟩
  unfold Rep at r1 r2
  obtain ⟨p, vs, rfl, h1, h2⟩ := r1
  subst r2
  obtain ⟨z, e1, r⟩ := h2.atI e
  refine IxRw ix_tup ⟨p, vs, i, z, rfl, rfl, ?_, e1, k z G H d (.refl st.sub) r h⟩
  rw [hX.K]
  exact Same.tup st.sub h1
theorem ixd_lst {ds : List D} {i : Int} {d : D} (e : L2.atI ds i = some d) (h : P d) : IxD S Γ (.lst ds) (.int i) P := by
  refine ⟨fun X hX v u G H st r1 r2 Q k => ?_⟩
  unfold Rep at r1 r2
  obtain ⟨p, vs, rfl, h1, h2⟩ := r1
  subst r2
  obtain ⟨z, e1, r⟩ := h2.atI e
  exact IxRw ix_list ⟨p, vs, i, z, rfl, rfl, .inl (.inl (st.sub _ _ h1)), e1, k z G H d (.refl st.sub) r h⟩
theorem ixd_str {z : Str} {i : Int} {c : Nat} (hz : z.length ≤ sizeLine) (e : L2.atI z.cps.toList i = some c) (h : P (.str ⟨#[c]⟩)) : IxD S Γ (.str z) (.int i) P := by
  refine ⟨fun X hX v u G H st r1 r2 Q k => ?_⟩
  unfold Rep at r1 r2
  subst r1 r2
  exact IxRw ix_str ⟨z, i, c, rfl, rfl, hz, e, k _ G H _ (.refl st.sub) rep_str h⟩

/-! ### operations on ints -/
/-- an operation on ints, its rule in HandS -/
theorem opd_I {f : Value → Value → Sem Value} {C : Int → Int → Prop} {g : Int → Int → Int} (hr : ∀ X, OpR X f (rI C fun i j => .int (g i j))) {i j : Int} (hc : C i j) (h : P (.int (g i j))) : OpD S Γ f (.int i) (.int j) P := by
  refine ⟨fun X hX v u G H st r1 r2 Q k => ?_⟩
  unfold Rep at r1 r2
  subst r1 r2
  exact OpRw (hr X) ⟨i, j, rfl, rfl, hc, k _ G H _ (.refl st.sub) rep_int h⟩
theorem opd_I0 {f : Value → Value → Sem Value} {g : Int → Int → Int} (hr : ∀ X, OpR X f (rI0 fun i j => .int (g i j))) {i j : Int} (h : P (.int (g i j))) : OpD S Γ f (.int i) (.int j) P := by
  refine ⟨fun X hX v u G H st r1 r2 Q k => ?_⟩
  unfold Rep at r1 r2
  subst r1 r2
  exact OpRw (hr X) ⟨i, j, rfl, rfl, k _ G H _ (.refl st.sub) rep_int h⟩
theorem opd_B0 {f : Value → Value → Sem Value} {g : Int → Int → Bool} (hr : ∀ X, OpR X f (rI0 fun i j => .bl (g i j))) {i j : Int} (h : P (.bl (g i j))) : OpD S Γ f (.int i) (.int j) P := by
  refine ⟨fun X hX v u G H st r1 r2 Q k => ?_⟩
  unfold Rep at r1 r2
  subst r1 r2
  exact OpRw (hr X) ⟨i, j, rfl, rfl, k _ G H _ (.refl st.sub) rep_bl h⟩
theorem od_add {i j : Int} (h : P (.int (i + j))) : OpD S Γ (binaryOp .Add) (.int i) (.int j) P := opd_I0 (fun _ => op_add) h
theorem od_sub {i j : Int} (h : P (.int (i - j))) : OpD S Γ (binaryOp .Sub) (.int i) (.int j) P := opd_I0 (fun _ => op_sub) h
theorem op_mulG {X : Cx} : OpR X (binaryOp .Mult) (rI IntMulOk fun i j => .int (i * j)) := opI fun _ _ _ _ _ _ _ hc q => PyProof.Rows.mul_int q hc
theorem op_fdivG {X : Cx} : OpR X (binaryOp .FloorDiv) (rI (fun i j => 0 < j ∧ Builtin.divisionGoesByPylong i j = false) fun i j => .int (i / j)) := opI fun i j _ _ _ _ _ hc q => by
  have h1 : (0 : Int) < j := hc.1
  exact PyProof.Rows.floordiv_int (by omega) (by rw [Int.fdiv_eq_ediv_of_nonneg i (by omega)]; exact q) (.inl hc.2)
theorem od_mul {i j : Int} (hc : IntMulOk i j) (h : P (.int (i * j))) : OpD S Γ (binaryOp .Mult) (.int i) (.int j) P := opd_I (fun _ => op_mulG) hc h
theorem od_fdiv {i j : Int} (hj : 0 < j) (hp : Builtin.divisionGoesByPylong i j = false) (h : P (.int (i / j))) : OpD S Γ (binaryOp .FloorDiv) (.int i) (.int j) P := opd_I (fun _ => op_fdivG) ⟨hj, hp⟩ h
theorem od_mod {i j : Int} (hj : 0 < j) (h : P (.int (i % j))) : OpD S Γ (binaryOp .Mod) (.int i) (.int j) P := opd_I (fun _ => op_mod) hj h
theorem od_pow {i j : Int} (hj : CPow i j) (h : P (.int (i ^ j.toNat))) : OpD S Γ (binaryOp .Pow) (.int i) (.int j) P := opd_I (fun _ => op_pow) hj h
theorem od_iadd {i j : Int} (h : P (.int (i + j))) : OpD S Γ (inplaceOp .Add) (.int i) (.int j) P := opd_I0 (fun _ => iop_add) h
theorem od_isub {i j : Int} (h : P (.int (i - j))) : OpD S Γ (inplaceOp .Sub) (.int i) (.int j) P := opd_I0 (fun _ => iop_sub) h
theorem od_lt {i j : Int} (h : P (.bl (decide (i < j)))) : OpD S Γ (compareOp .Lt) (.int i) (.int j) P := opd_B0 (fun _ => op_lt) h
theorem od_le {i j : Int} (h : P (.bl (decide (i ≤ j)))) : OpD S Γ (compareOp .LtE) (.int i) (.int j) P := opd_B0 (fun _ => op_le) h
theorem od_gt {i j : Int} (h : P (.bl (decide (j < i)))) : OpD S Γ (compareOp .Gt) (.int i) (.int j) P := opd_B0 (fun _ => op_gt) h
theorem od_ge {i j : Int} (h : P (.bl (decide (j ≤ i)))) : OpD S Γ (compareOp .GtE) (.int i) (.int j) P := opd_B0 (fun _ => op_ge) h
theorem dec_V_int {i j : Int} : decide (V.int i = V.int j) = decide (i = j) := by
  by_cases e : i = j
  · subst e; simp
  · rw [decide_eq_false e, decide_eq_false (fun q => e (V.int.inj q))]
theorem dec_V_str {i j : Str} : decide (V.str i = V.str j) = decide (i = j) := by
  by_cases e : i = j
  · subst e; simp
  · rw [decide_eq_false e, decide_eq_false (fun q => e (V.str.inj q))]
theorem dec_V_bl {i j : Bool} : decide (V.bl i = V.bl j) = decide (i = j) := by
  cases i <;> cases j <;> decide
theorem od_eq {i j : Int} (h : P (.bl (decide (i = j)))) : OpD S Γ (compareOp .Eq) (.int i) (.int j) P := by
  refine ⟨fun X hX v u G H st r1 r2 Q k => ?_⟩
  unfold Rep at r1 r2
  subst r1 r2
  exact OpRw op_eq ⟨rfl, by rw [dec_V_int]; exact k _ G H _ (.refl st.sub) rep_bl h⟩
theorem od_ne {i j : Int} (h : P (.bl (!decide (i = j)))) : OpD S Γ (compareOp .NotEq) (.int i) (.int j) P := by
  refine ⟨fun X hX v u G H st r1 r2 Q k => ?_⟩
  unfold Rep at r1 r2
  subst r1 r2
  exact OpRw op_ne ⟨rfl, by rw [dec_V_int]; exact k _ G H _ (.refl st.sub) rep_bl h⟩
theorem od_eqS {i j : Str} (h : P (.bl (decide (i = j)))) : OpD S Γ (compareOp .Eq) (.str i) (.str j) P := by
  refine ⟨fun X hX v u G H st r1 r2 Q k => ?_⟩
  unfold Rep at r1 r2
  subst r1 r2
  exact OpRw op_eq ⟨rfl, by rw [dec_V_str]; exact k _ G H _ (.refl st.sub) rep_bl h⟩
theorem od_neS {i j : Str} (h : P (.bl (!decide (i = j)))) : OpD S Γ (compareOp .NotEq) (.str i) (.str j) P := by
  refine ⟨fun X hX v u G H st r1 r2 Q k => ?_⟩
  unfold Rep at r1 r2
  subst r1 r2
  exact OpRw op_ne ⟨rfl, by rw [dec_V_str]; exact k _ G H _ (.refl st.sub) rep_bl h⟩
theorem od_eqB {i j : Bool} (h : P (.bl (decide (i = j)))) : OpD S Γ (compareOp .Eq) (.bl i) (.bl j) P := by
  refine ⟨fun X hX v u G H st r1 r2 Q k => ?_⟩
  unfold Rep at r1 r2
  subst r1 r2
  exact OpRw op_eq ⟨rfl, by rw [dec_V_bl]; exact k _ G H _ (.refl st.sub) rep_bl h⟩
theorem ud_neg {i : Int} (h : P (.int (-i))) : UnD S Γ (unaryOp .USub) (.int i) P := by
  refine ⟨fun X hX v G H st r1 Q k => ?_⟩
  unfold Rep at r1
  subst r1
  exact UnRw un_neg ⟨i, rfl, k _ G H _ (.refl st.sub) rep_int h⟩
/-- x is None -/
def isNon : D → Bool | .non => true | _ => false
theorem rep_non_iff {K : PySem.W.Frag} {G H : Hp} : ∀ {d : D} {v : V}, Rep K G H d v → decide (v = .non) = isNon d := by
  intro d v r
  cases d <;> unfold Rep at r
  case non => subst r; rfl
  case bl => subst r; rfl
  case int => subst r; rfl
  case str => subst r; rfl
  case cls => subst r; rfl
  case ty => subst r; rfl
  case tup => obtain ⟨_, _, e, _⟩ := r; subst e; rfl
  case lst => obtain ⟨_, _, e, _⟩ := r; subst e; rfl
  case obj => obtain ⟨_, _, _, e, _⟩ := r; subst e; rfl
  case sto => obtain ⟨_, e, _⟩ := r; subst e; rfl
  case scr => obtain ⟨_, e, _⟩ := r; subst e; rfl
theorem od_isN {x : D} (h : P (.bl (isNon x))) : OpD S Γ (compareOp .Is) x .non P := by
  refine ⟨fun X hX v u G H st r1 r2 Q k => ?_⟩
  have e := rep_non_iff r1
  unfold Rep at r2
  subst r2
  exact OpRw op_isN ⟨rfl, by rw [e]; exact k _ G H _ (.refl st.sub) rep_bl h⟩
theorem od_notN {x : D} (h : P (.bl (!isNon x))) : OpD S Γ (compareOp .IsNot) x .non P := by
  refine ⟨fun X hX v u G H st r1 r2 Q k => ?_⟩
  have e := rep_non_iff r1
  unfold Rep at r2
  subst r2
  exact OpRw op_notN ⟨rfl, by rw [e]; exact k _ G H _ (.refl st.sub) rep_bl h⟩
/-- lists put together: a new list -/
structure OpF (S : Scp) (Γ : Cg) (f : Value → Value → Sem Value) (x y : D) (P : List D → Prop) : Prop where
  run : ∀ X, COk S Γ X → ∀ v u G H, Stp Γ.K Γ.G0 Γ.H0 G H → Rep Γ.K G H x v → Rep Γ.K G H y u → ∀ Q : VK, (∀ p vs G' H' ds, Stp Γ.K G H G' H' → H p = none → G' p = none → H' p = some (.lst vs) → RepL Γ.K G' H' ds vs → P ds → Q (.ref p) H') → wO X f v u H Q
theorem jf_bin {op : Operator} (h : JE S Γ a δ fun x => JE S Γ b δ fun y => OpF S Γ (binaryOp op) x y PL) : JF S Γ (.BinOp a op b pos) δ PL := by
  refine ⟨fun X hX σ G H st ev Q k => ?_⟩
  refine PEw (pe_op wO_r wE_pe wE_pe) ?_
  refine h.run X hX σ G H st ev _ fun v G1 H1 x s1 r1 h1 => ?_
  refine h1.run X hX σ G1 H1 (st.trans s1) (ev.mono s1) _ fun u G2 H2 y s2 r2 h2 => ?_
  exact h2.run X hX v u G2 H2 ((st.trans s1).trans s2) (r1.mono s2) r2 Q fun p vs G' H' ds s hp g h r q => k p vs G' H' ds ((s1.trans s2).trans s) ((s1.trans s2).free hp) g h r q
theorem of_cat {xs ys : List D} (hl : xs.length + ys.length ≤ sizeLine) (h : PL (xs ++ ys)) : OpF S Γ (binaryOp .Add) (.lst xs) (.lst ys) PL := by
  refine ⟨fun X hX v u G H st r1 r2 Q k => ?_⟩
  unfold Rep at r1 r2
  obtain ⟨p, vs, rfl, h1, h2⟩ := r1
  obtain ⟨p', vs', rfl, h1', h2'⟩ := r2
  refine OpRw op_cat ⟨p, p', vs, vs', rfl, rfl, st.sub _ _ h1, st.sub _ _ h1', by rw [h2.length, h2'.length]; exact hl, fun q hq => ?_⟩
  have s2 : Stp Γ.K G H G (upd H q (.lst (vs ++ vs'))) := .newM st.sub hq
  exact k q _ G _ (xs ++ ys) s2 hq (st.sub.free hq) upd_same ((h2.append h2').mono s2) h
theorem of_od {f : Value → Value → Sem Value} {x y : D} (h : OpF S Γ f x y fun ds => P (.lst ds)) : OpD S Γ f x y P := by
  refine ⟨fun X hX v u G H st r1 r2 Q k => ?_⟩
  refine h.run X hX v u G H st r1 r2 Q fun p vs G1 H1 ds s1 hp gp h1 r h2 => ?_
  refine k _ _ _ (.lst ds) (s1.freeze hp h1 gp) ?_ h2
  unfold Rep
  exact ⟨p, vs, rfl, upd_same, r.mo (.freeze h1 gp)⟩
/-- tuples put together -/
theorem od_catT {xs ys : List D} (hn : xs ≠ []) (hm : ys ≠ []) (hl : xs.length + ys.length ≤ sizeLine) (h : P (.tup (xs ++ ys))) : OpD S Γ (binaryOp .Add) (.tup xs) (.tup ys) P := by
  refine ⟨fun X hX v u G H st r1 r2 Q k => ?_⟩
  unfold Rep at r1 r2
  obtain ⟨p, vs, rfl, h1, h2⟩ := r1
  obtain ⟨p', vs', rfl, h1', h2'⟩ := r2
  have hv : ∀ {xs : List D} {vs : List V}, xs ≠ [] → RepL Γ.K G H xs vs → vs ≠ [] := by
    intro xs vs hn h2 z
    subst z
    have := h2.length
    cases xs with
    | nil => exact hn rfl
    | cons _ _ => simp at this
  refine OpRw op_catT ⟨p, p', vs, vs', rfl, rfl, by rw [hX.K]; exact Same.tup st.sub h1, by rw [hX.K]; exact Same.tup st.sub h1', hv hn h2, by rw [h2.length, h2'.length]; exact hl, fun z => absurd z (hv hm h2'), fun _ q hq => ?_⟩
  have s2 : Stp Γ.K G H (upd G q (.tup (vs ++ vs'))) (upd H q (.tup (vs ++ vs'))) := .new st.sub hq
  refine k _ _ _ (.tup (xs ++ ys)) s2 ?_ h
  unfold Rep
  exact ⟨q, _, rfl, .inl (.inl upd_same), (h2.append h2').mono s2⟩
theorem od_catS {x y : Str} (hl : x.length + y.length ≤ sizeLine) (h : P (.str (x ++ y))) : OpD S Γ (binaryOp .Add) (.str x) (.str y) P := by
  refine ⟨fun X hX v u G H st r1 r2 Q k => ?_⟩
  unfold Rep at r1 r2
  subst r1 r2
  exact OpRw op_add_str ⟨x, y, rfl, rfl, hl, k _ G H _ (.refl st.sub) rep_str h⟩

/-! ### built-in calls -/
theorem je_callB {x : Str} {id : String} {p : Pos} (hg : x ∈ S.gl) (hm : Γ.mg x = none) (hv : bootBuiltins x = some (.builtin id)) (h : JA S Γ (e :: es) δ fun ds => CallD S Γ (.builtin id) ds P)
    (hn : x ≠ "__name__" := by decide) (hdb : (x == ("__debug__" : Str)) = false := by decide) (he : ∀ env, starEach (e :: es) env = (false, eval e env) :: starEach es env := by intro _; rfl) (hpl : ∀ env, (backTo pos (starEach es env)).any (·.1) = false := by intro _; rfl) :
    JE S Γ (.Call (.Name x p) (e :: es) [] pos) δ P := by
  refine ⟨fun X hX σ G H st ev Q k => ?_⟩
  have hk : Gl X x := by show X.env.scope.names.lookup x = _; rw [hX.sc]; exact hX.so.gl x hg
  refine PEw (pe_callB wC_r hk (by rw [hX.mg]; exact hm) hv wA_pa hn hdb (he _) (hpl _)) ?_
  refine h.run X hX σ G H st ev _ fun vs G1 H1 ds s1 r1 h1 => ?_
  exact h1.run X hX vs G1 H1 (st.trans s1) r1 Q fun z G' H' d s r p => k z G' H' d (s1.trans s) r p
theorem je_callTy {x : Str} {T : String} {p : Pos} (hg : x ∈ S.gl) (hm : Γ.mg x = none) (hv : bootBuiltins x = some (.type T)) (h : JA S Γ (e :: es) δ fun ds => CallD S Γ (.type T) ds P)
    (hn : x ≠ "__name__" := by decide) (hdb : (x == ("__debug__" : Str)) = false := by decide) (he : ∀ env, starEach (e :: es) env = (false, eval e env) :: starEach es env := by intro _; rfl) (hpl : ∀ env, (backTo pos (starEach es env)).any (·.1) = false := by intro _; rfl) :
    JE S Γ (.Call (.Name x p) (e :: es) [] pos) δ P := by
  refine ⟨fun X hX σ G H st ev Q k => ?_⟩
  have hk : Gl X x := by show X.env.scope.names.lookup x = _; rw [hX.sc]; exact hX.so.gl x hg
  refine PEw (pe_callTy wC_r hk (by rw [hX.mg]; exact hm) hv wA_pa hn hdb (he _) (hpl _)) ?_
  refine h.run X hX σ G H st ev _ fun vs G1 H1 ds s1 r1 h1 => ?_
  exact h1.run X hX vs G1 H1 (st.trans s1) r1 Q fun z G' H' d s r p => k z G' H' d (s1.trans s) r p
/-- a built-in whose value is a new list -/
structure CallF (S : Scp) (Γ : Cg) (f : Value) (xs : List D) (P : List D → Prop) : Prop where
  run : ∀ X, COk S Γ X → ∀ vs G H, Stp Γ.K Γ.G0 Γ.H0 G H → RepL Γ.K G H xs vs → ∀ Q : VK, (∀ p vs G' H' ds, Stp Γ.K G H G' H' → H p = none → G' p = none → H' p = some (.lst vs) → RepL Γ.K G' H' ds vs → P ds → Q (.ref p) H') → wC X f vs H Q
theorem jf_callTy {x : Str} {T : String} {p : Pos} (hg : x ∈ S.gl) (hm : Γ.mg x = none) (hv : bootBuiltins x = some (.type T)) (h : JA S Γ (e :: es) δ fun ds => CallF S Γ (.type T) ds PL)
    (hn : x ≠ "__name__" := by decide) (hdb : (x == ("__debug__" : Str)) = false := by decide) (he : ∀ env, starEach (e :: es) env = (false, eval e env) :: starEach es env := by intro _; rfl) (hpl : ∀ env, (backTo pos (starEach es env)).any (·.1) = false := by intro _; rfl) :
    JF S Γ (.Call (.Name x p) (e :: es) [] pos) δ PL := by
  refine ⟨fun X hX σ G H st ev Q k => ?_⟩
  have hk : Gl X x := by show X.env.scope.names.lookup x = _; rw [hX.sc]; exact hX.so.gl x hg
  refine PEw (pe_callTy wC_r hk (by rw [hX.mg]; exact hm) hv wA_pa hn hdb (he _) (hpl _)) ?_
  refine h.run X hX σ G H st ev _ fun vs G1 H1 ds s1 r1 h1 => ?_
  exact h1.run X hX vs G1 H1 (st.trans s1) r1 Q fun p vs G' H' ds s hp g h r q => k p vs G' H' ds (s1.trans s) (s1.free hp) g h r q
theorem jf_callB {x : Str} {id : String} {p : Pos} (hg : x ∈ S.gl) (hm : Γ.mg x = none) (hv : bootBuiltins x = some (.builtin id)) (h : JA S Γ (e :: es) δ fun ds => CallF S Γ (.builtin id) ds PL)
    (hn : x ≠ "__name__" := by decide) (hdb : (x == ("__debug__" : Str)) = false := by decide) (he : ∀ env, starEach (e :: es) env = (false, eval e env) :: starEach es env := by intro _; rfl) (hpl : ∀ env, (backTo pos (starEach es env)).any (·.1) = false := by intro _; rfl) :
    JF S Γ (.Call (.Name x p) (e :: es) [] pos) δ PL := by
  refine ⟨fun X hX σ G H st ev Q k => ?_⟩
  have hk : Gl X x := by show X.env.scope.names.lookup x = _; rw [hX.sc]; exact hX.so.gl x hg
  refine PEw (pe_callB wC_r hk (by rw [hX.mg]; exact hm) hv wA_pa hn hdb (he _) (hpl _)) ?_
  refine h.run X hX σ G H st ev _ fun vs G1 H1 ds s1 r1 h1 => ?_
  exact h1.run X hX vs G1 H1 (st.trans s1) r1 Q fun p vs G' H' ds s hp g h r q => k p vs G' H' ds (s1.trans s) (s1.free hp) g h r q
theorem repL1 {K : PySem.W.Frag} {G H : Hp} {d : D} {vs : List V} (h : RepL K G H [d] vs) : ∃ v, vs = [v] ∧ Rep K G H d v := by
  unfold RepL at h
  obtain ⟨v, r, e, h1, h2⟩ := h
  unfold RepL at h2
  subst h2
  exact ⟨v, e, h1⟩
theorem repL2 {K : PySem.W.Frag} {G H : Hp} {d d' : D} {vs : List V} (h : RepL K G H [d, d'] vs) : ∃ v u, vs = [v, u] ∧ Rep K G H d v ∧ Rep K G H d' u := by
  unfold RepL at h
  obtain ⟨v, r, e, h1, h2⟩ := h
  obtain ⟨u, e2, h3⟩ := repL1 h2
  subst e2
  exact ⟨v, u, e, h1, h3⟩
theorem cd_abs {i : Int} (h : P (.int (if i < 0 then -i else i))) : CallD S Γ (.builtin "abs") [.int i] P := by
  refine ⟨fun X hX vs G H st r Q k => ?_⟩
  obtain ⟨v, rfl, r1⟩ := repL1 r
  unfold Rep at r1
  subst r1
  exact CallRw call_abs ⟨i, rfl, k _ G H _ (.refl st.sub) rep_int h⟩
theorem cd_int {i : Int} (h : P (.int i)) : CallD S Γ (.type "int") [.int i] P := by
  refine ⟨fun X hX vs G H st r Q k => ?_⟩
  obtain ⟨v, rfl, r1⟩ := repL1 r
  unfold Rep at r1
  subst r1
  exact CallRw call_int1 (.inl ⟨i, rfl, k _ G H _ (.refl st.sub) rep_int h⟩)
theorem cd_intB {i : Bool} (h : P (.int (if i then 1 else 0))) : CallD S Γ (.type "int") [.bl i] P := by
  refine ⟨fun X hX vs G H st r Q k => ?_⟩
  obtain ⟨v, rfl, r1⟩ := repL1 r
  unfold Rep at r1
  subst r1
  exact CallRw call_int1 (.inr ⟨i, rfl, k _ G H _ (.refl st.sub) rep_int h⟩)
theorem cd_lenL {ds : List D} (h : P (.int ds.length)) : CallD S Γ (.builtin "len") [.lst ds] P := by
  refine ⟨fun X hX vs G H st r Q k => ?_⟩
  obtain ⟨v, rfl, r1⟩ := repL1 r
  unfold Rep at r1
  obtain ⟨p, ys, rfl, h1, h2⟩ := r1
  exact CallRw call_len_seq ⟨p, ys, rfl, .inl (.inl (.inl (st.sub _ _ h1))), by rw [h2.length]; exact k _ G H _ (.refl st.sub) rep_int h⟩
theorem cd_lenT {ds : List D} (h : P (.int ds.length)) : CallD S Γ (.builtin "len") [.tup ds] P := by
  refine ⟨fun X hX vs G H st r Q k => ?_⟩
  obtain ⟨v, rfl, r1⟩ := repL1 r
  unfold Rep at r1
  obtain ⟨p, ys, rfl, h1, h2⟩ := r1
  exact CallRw call_len_seq ⟨p, ys, rfl, .inr (by rw [hX.K]; exact Same.tup st.sub h1), by rw [h2.length]; exact k _ G H _ (.refl st.sub) rep_int h⟩
theorem cd_lenS {x : Str} (hz : x.length ≤ sizeLine) (h : P (.int x.length)) : CallD S Γ (.builtin "len") [.str x] P := by
  refine ⟨fun X hX vs G H st r Q k => ?_⟩
  obtain ⟨v, rfl, r1⟩ := repL1 r
  unfold Rep at r1
  subst r1
  exact CallRw call_len_str ⟨x, rfl, hz, k _ G H _ (.refl st.sub) rep_int h⟩
theorem cd_max {i j : Int} (h : P (.int (if j > i then j else i))) : CallD S Γ (.builtin "max") [.int i, .int j] P := by
  refine ⟨fun X hX vs G H st r Q k => ?_⟩
  obtain ⟨v, u, rfl, r1, r2⟩ := repL2 r
  unfold Rep at r1 r2
  subst r1 r2
  exact CallRw (call_max2 hX.calm) ⟨i, j, rfl, k _ G H _ (.refl st.sub) rep_int h⟩
theorem cd_min {i j : Int} (h : P (.int (if j < i then j else i))) : CallD S Γ (.builtin "min") [.int i, .int j] P := by
  refine ⟨fun X hX vs G H st r Q k => ?_⟩
  obtain ⟨v, u, rfl, r1, r2⟩ := repL2 r
  unfold Rep at r1 r2
  subst r1 r2
  exact CallRw (call_min2 hX.calm) ⟨i, j, rfl, k _ G H _ (.refl st.sub) rep_int h⟩
theorem cf_list {ds : List D} (h : PL ds) : CallF S Γ (.type "list") [.lst ds] PL := by
  refine ⟨fun X hX vs G H st r Q k => ?_⟩
  obtain ⟨v, rfl, r1⟩ := repL1 r
  unfold Rep at r1
  obtain ⟨p, ys, rfl, h1, h2⟩ := r1
  refine CallRw call_list_of ⟨p, ys, rfl, .inl (.inl (.inl (st.sub _ _ h1))), fun l hl => ?_⟩
  have s2 : Stp Γ.K G H G (upd H l (.lst ys)) := .newM st.sub hl
  exact k l _ G _ ds s2 hl (st.sub.free hl) upd_same (h2.mono s2) h
theorem cf_listT {ds : List D} (h : PL ds) : CallF S Γ (.type "list") [.tup ds] PL := by
  refine ⟨fun X hX vs G H st r Q k => ?_⟩
  obtain ⟨v, rfl, r1⟩ := repL1 r
  unfold Rep at r1
  obtain ⟨p, ys, rfl, h1, h2⟩ := r1
  refine CallRw call_list_of ⟨p, ys, rfl, .inr (by rw [hX.K]; exact Same.tup st.sub h1), fun l hl => ?_⟩
  have s2 : Stp Γ.K G H G (upd H l (.lst ys)) := .newM st.sub hl
  exact k l _ G _ ds s2 hl (st.sub.free hl) upd_same (h2.mono s2) h
theorem cf_cd {f : Value} {xs : List D} (h : CallF S Γ f xs fun ds => P (.lst ds)) : CallD S Γ f xs P := by
  refine ⟨fun X hX v G H st r1 Q k => ?_⟩
  refine h.run X hX v G H st r1 Q fun p vs G1 H1 ds s1 hp gp h1 r h2 => ?_
  refine k _ _ _ (.lst ds) (s1.freeze hp h1 gp) ?_ h2
  unfold Rep
  exact ⟨p, vs, rfl, upd_same, r.mo (.freeze h1 gp)⟩
/-- isinstance with one of the common built-in types -/
def tyS : D → String
  | .non => "NoneType"
  | .bl _ => "bool"
  | .int _ => "int"
  | .str _ => "str"
  | .tup _ => "tuple"
  | .lst _ => "list"
  | .sto _ => "dict"
  | _ => "object"
def isTyS (a T : String) : Bool := a == T || (a == "bool" && T == "int")
def isTy (d : D) (T : String) : Bool := isTyS (tyS d) T
def plainD : D → Bool
  | .obj _ _ _ => false | .cls _ => false | .ty _ => false | .scr _ => false | _ => true
theorem tyx_of {K : PySem.W.Frag} {G H : Hp} (e : Same G H) {d : D} {v : V} (hp : plainD d = true) (r : Rep K G H d v) : TyX K H v (.type (tyS d)) := by
  cases d <;> first | cases hp | skip
  all_goals unfold Rep at r
  case non => subst r; exact .base .non
  case bl => subst r; exact .base (.bl _)
  case int => subst r; exact .base (.int _)
  case str => subst r; exact .base (.str _)
  case tup =>
    obtain ⟨p, vs, rfl, h, _⟩ := r
    rcases h with (h | ⟨o, h⟩) | ⟨o, its, n, h, hc, _⟩
    · exact .base (.tup (e _ _ h))
    · exact .fTuple (e _ _ h)
    · exact .kTuple h hc
  case lst => obtain ⟨p, vs, rfl, h, _⟩ := r; exact .base (.lst (e _ _ h))
  case sto => obtain ⟨p, rfl, _, kvs, h, _⟩ := r; exact .base (.dK h)
theorem kit_tab : (["NoneType", "bool", "int", "str", "tuple", "list", "dict"].all fun a => ["int", "bool", "str", "tuple", "list", "dict"].all fun T => decide (kitB a T = some (isTyS a T))) = true := by decide +kernel
theorem kit_all {K : PySem.W.Frag} {d : D} (hp : plainD d = true) {T : String} (hT : T ∈ ["int", "bool", "str", "tuple", "list", "dict"]) : PySem.W.kitOne K (.type (tyS d)) (.type T) = some (isTy d T) := by
  have h := kit_tab
  rw [List.all_eq_true] at h
  have h2 : tyS d ∈ ["NoneType", "bool", "int", "str", "tuple", "list", "dict"] := by
    cases d <;> first | (simp [tyS]; done) | cases hp
  have h3 := h _ h2
  rw [List.all_eq_true] at h3
  exact kit_ty (of_decide_eq_true (h3 _ hT))
theorem cd_isi {d : D} {T : String} (hp : plainD d = true) (hT : T ∈ ["int", "bool", "str", "tuple", "list", "dict"]) (h : P (.bl (isTy d T))) : CallD S Γ (.builtin "isinstance") [d, .ty T] P := by
  refine ⟨fun X hX vs G H st r Q k => ?_⟩
  obtain ⟨v, u, rfl, r1, r2⟩ := repL2 r
  unfold Rep at r2
  subst r2
  exact CallRw call_isi ⟨v, .ty T, .type (tyS d), .type T, isTy d T, rfl, .ty T, by rw [hX.K]; exact tyx_of st.sub hp r1, kit_all hp hT, k _ G H _ (.refl st.sub) rep_bl h⟩

/-! ### a def's contract -/
abbrev Ct := List D → (D → Prop) → (Value → List Str → List D → Prop) → Prop
def spC (K : PySem.W.Frag) (c : Ct) : Sp := fun vs H Q E => ∃ G ds, Same G H ∧ RepL K G H ds vs ∧ c ds (fun d => ∀ v G' H', Stp K G H G' H' → Rep K G' H' d v → Q v H') fun cls ns es => ∀ d G' H', Stp K G H G' H' → XdOk K G' H' d ns es → E cls d H'
/-- a def of the module, called with arguments and the defaults df -/
structure DefOk (P : Program) (w : World) (K : PySem.W.Frag) (mg : Str → Option Value) (base : Heap) (x : Str) (lv : Nat) (df : List D) (c : Ct) : Prop where
  mono : ∀ ds (P P' : D → Prop) (E E' : Value → List Str → List D → Prop), (∀ d, P d → P' d) → (∀ v ns es, E v ns es → E' v ns es) → c ds P E → c ds P' E'
  ex : ∃ f fd ps ds dvs, FnOk P w K mg base (L2.CX P w) lv f fd ps (spC K c) ∧ mg x = some (.ref f) ∧ PySem.W.keepIn K (.ref f) = true ∧ Binds K fd ps ds ∧ Vals dvs ds ∧ ∀ G H, RepL K G H df dvs
theorem je_call {x : Str} {lv : Nat} {df : List D} {ct : Ct} {p : Pos} (F : DefOk Γ.P Γ.w Γ.K Γ.mg Γ.base x lv df ct) (hl : lv ≤ S.lv) (hg : x ∈ S.gl)
    (h : JA S Γ (e :: es) δ fun ds => ct (ds ++ df) P (Γ.ex δ))
    (hdb : (x == ("__debug__" : Str)) = false := by decide) (he : ∀ env, starEach (e :: es) env = (false, eval e env) :: starEach es env := by intro _; rfl) (hpl : ∀ env, (backTo pos (starEach es env)).any (·.1) = false := by intro _; rfl) :
    JE S Γ (.Call (.Name x p) (e :: es) [] pos) δ P := by
  refine ⟨fun X hX σ G H st ev Q k => ?_⟩
  have hk : Gl X x := by show X.env.scope.names.lookup x = _; rw [hX.sc]; exact hX.so.gl x hg
  obtain ⟨f, fd, ps, ds, dvs, F1, F2, F3, F4, F5, F6⟩ := F.ex
  have F1' : FnOk X.prog X.w X.K X.mg X.base (L2.CX X.prog X.w) lv f fd ps (spC Γ.K ct) := by rw [hX.prog, hX.w, hX.K, hX.mg, hX.base]; exact F1
  refine PEw (pe_callSD (E := WE (wx Γ)) F1' (hX.room.mono hl) hk (by rw [hX.mg]; exact F2) (by rw [hX.K]; exact F3) (by rw [hX.K]; exact F4) F5 (fun σ => passAt hX.tk σ) wA_pa hdb (he _) (hpl _)) ?_
  refine h.run X hX σ G H st ev _ fun vs G1 H1 ds s1 r1 h1 => ?_
  refine ⟨G1, ds ++ df, s1.sub, r1.append (F6 _ _), F.mono _ _ _ _ _ (fun d p v G' H' s r => k v G' H' d (s1.trans s) r p) (fun cls ns es q d G' H' s x => ?_) h1⟩
  exact ⟨G', δ, ns, es, (st.trans s1).trans s, ev.mono (s1.trans s), x, q⟩
end
end Z
set_option Elab.async false
set_option linter.all false
set_option maxRecDepth 100000
set_option maxHeartbeats 4000000
/-! Z3: statements, targets, loops, comprehensions, a def keeps its contract. -/
namespace Z
open PySem L2

section
variable {S : Scp} {Γ : Cg} {δ : List Sl} {P : D → Prop} {PB : Bool → Prop} {PL : List D → Prop} {K : Kp} {a b c e : Expr} {es rest : List Expr} {pos : Pos} {st : Stmt} {sts : List Stmt}

/-! ### blocks -/
theorem jss_nil (h : K.nx δ) : JSs S Γ [] δ K := ⟨fun X hX σ G H De s ev en => PSsw pss_nil (en.nx σ G H δ s .refl ev h)⟩
theorem jss_cons (h : JS S Γ st δ { K with nx := fun δ' => JSs S Γ sts δ' K }) : JSs S Γ (st :: sts) δ K := by
  refine ⟨fun X hX σ G H De s ev en => ?_⟩
  refine PSsw (pss_cons wS_ps wSs_pss) ?_
  refine h.run X hX σ G H _ s ev ⟨fun σ' G' H' δ' s' m ev' q => ?_, en.bk, en.ct, en.rt⟩
  exact q.run X hX σ' G' H' De s' ev' (en.go m)
theorem jss_one (h : JS S Γ st δ K) : JSs S Γ [st] δ K := ⟨fun X hX σ G H De s ev en => PSsw (pss_one wS_ps) (h.run X hX σ G H De s ev en)⟩
theorem js_absurd (h : False) : JS S Γ st δ K := h.elim
theorem js_pass (h : K.nx δ) : JS S Γ (.Pass pos) δ K := ⟨fun X hX σ G H De s ev en => PSw ps_pass (en.nx σ G H δ s .refl ev h)⟩
theorem js_break (h : K.bk δ) : JS S Γ (.Break pos) δ K := ⟨fun X hX σ G H De s ev en => PSw ps_break (en.bk σ G H δ s .refl ev h)⟩
theorem js_continue (h : K.ct δ) : JS S Γ (.Continue pos) δ K := ⟨fun X hX σ G H De s ev en => PSw ps_continue (en.ct σ G H δ s .refl ev h)⟩
theorem js_ret (h : JE S Γ e δ K.rt) : JS S Γ (.Return (some e) pos) δ K := by
  refine ⟨fun X hX σ G H De s ev en => ?_⟩
  refine PSw (ps_ret wE_pe) ?_
  exact h.run X hX σ G H s ev _ fun v G' H' d s' r p => en.rt v G' H' d (s.trans s') r p
theorem js_retN (h : K.rt .non) : JS S Γ (.Return none pos) δ K := ⟨fun X hX σ G H De s ev en => PSw ps_retN (en.rt _ G H _ s rep_non h)⟩
theorem js_if {x y : List Stmt} (h : JT S Γ c δ fun t => if t = true then JSs S Γ x δ K else JSs S Γ y δ K) : JS S Γ (.If c x y pos) δ K := by
  refine ⟨fun X hX σ G H De s ev en => ?_⟩
  refine PSw (ps_if wT_pt wSs_pss wSs_pss) ?_
  refine h.run X hX σ G H s ev _ fun t G1 H1 s1 p => ?_
  cases t with
  | true => exact L2.iteT ((show JSs _ _ _ _ _ from p).run X hX σ G1 H1 De (s.trans s1) (ev.mono s1) (en.go s1.mo))
  | false => exact L2.iteF ((show JSs _ _ _ _ _ from p).run X hX σ G1 H1 De (s.trans s1) (ev.mono s1) (en.go s1.mo))
/-- an expression whose value is dropped -/
theorem js_expr (h : JE S Γ e δ fun _ => K.nx δ) (hs : ∀ env, swapsWith e none pos.line env = pure false := by intro _; rfl) : JS S Γ (.Expr e pos) δ K := by
  refine ⟨fun X hX σ G H De s ev en => ?_⟩
  refine PSw (ps_expr wE_pe (hs _)) ?_
  exact h.run X hX σ G H s ev _ fun v G' H' d s' r p => en.nx σ G' H' δ (s.trans s') s'.mo (ev.mono s') p

/-! ### targets -/
theorem COk.loc {X : Cx} (hX : COk S Γ X) {x : Str} {i : Nat} (h : (x, i) ∈ S.ss) : X.N[i]? = some x ∧ Loc X.env.scope x ∧ (X.fn x = true ∨ X.env.scope.names.lookup x = some .local) := by
  obtain ⟨h1, h2⟩ := hX.so.ss _ h
  exact ⟨by rw [hX.N]; exact h1, by rw [hX.sc]; exact h2, hX.st _ h⟩
theorem jg_name {x : Str} {i : Nat} {d : D} {Q : List Sl → Prop} (hv : (x, i) ∈ S.ss) (h : Q (δ.set i (.fz d))) : JG S Γ (.Name x pos) d δ Q := by
  refine ⟨fun X hX v σ G H s ev r Q' k => ?_⟩
  obtain ⟨h1, h2, h3⟩ := hX.loc hv
  exact PGw (pg_name (by rw [hX.N]; exact hX.so.nd) h1 h2 h3) (k _ G H _ (.refl s.sub) (ev.set r) h)
theorem jgs_nil {Q : List Sl → Prop} (h : Q δ) : JGs S Γ [] [] δ Q := by
  refine ⟨fun X hX vs σ G H s ev r Q' k => ?_⟩
  unfold RepL at r
  exact PGsw pgs_nil ⟨r, k _ G H _ (.refl s.sub) ev h⟩
theorem jgs_cons {d : D} {ds : List D} {Q : List Sl → Prop} (h : JG S Γ e d δ fun δ' => JGs S Γ es ds δ' Q) (hs : ∀ env, (assignEach (e :: es) env).map (·.2) = assign e env :: (assignEach es env).map (·.2) := by intro _; rfl) : JGs S Γ (e :: es) (d :: ds) δ Q := by
  refine ⟨fun X hX vs σ G H s ev r Q' k => ?_⟩
  unfold RepL at r
  obtain ⟨v, vr, rfl, r1, r2⟩ := r
  refine PGsw (pgs_cons wG_pg wGs_pgs (hs _)) ⟨v, vr, rfl, ?_⟩
  refine h.run X hX v σ G H s ev r1 _ fun σ1 G1 H1 δ1 s1 ev1 q => ?_
  exact q.run X hX vr σ1 G1 H1 (s.trans s1) ev1 (r2.mono s1) Q' fun σ2 G2 H2 δ2 s2 ev2 q2 => k σ2 G2 H2 δ2 (s1.trans s2) ev2 q2
theorem jg_tup {kk : Nat} {ds : List D} {Q : List Sl → Prop} {n : Nat} (hl : ds.length = n) (h : JGs S Γ es ds δ Q) (hn : ∀ env, (assignEach es env).length = n := by intro _; rfl) (hst : ∀ env, (assignEach es env).findIdx? (·.1) = none := by intro _; rfl) : JG S Γ (.Tuple es kk pos) (.tup ds) δ Q := by
  refine ⟨fun X hX v σ G H s ev r Q' k => ?_⟩
  unfold Rep at r
  obtain ⟨p, vs, rfl, h1, h2⟩ := r
  refine PGw (pg_tup hX.calm wGs_pgs (hn _) (hst _)) ⟨p, vs, rfl, by rw [hX.K]; exact Same.tup s.sub h1, by rw [h2.length]; exact hl, ?_⟩
  exact h.run X hX vs σ G H s ev h2 Q' k
/-- target = value -/
theorem js_asg {tg : Expr} (h : JE S Γ e δ fun d => JG S Γ tg d δ K.nx) (hs : ∀ env, swapsWithSole [tg] e pos.line env = pure false := by intro _; rfl) (hw : ∀ env : Env, env.scope = S.sc → swappedStores [tg] e env = pure none := by intro env h; first | rfl | (cases env; cases h; rfl))
    (h1 : ∀ env, (assignEach [tg] env).map (·.2) = [assign tg env] := by intro _; rfl) : JS S Γ (.Assign [tg] e pos) δ K := by
  refine ⟨fun X hX σ G H De s ev en => ?_⟩
  refine PSw (ps_asg wE_pe wG_pg (hs _) (hw _ hX.sc) (h1 _)) ?_
  refine h.run X hX σ G H s ev _ fun v G1 H1 d s1 r q => ?_
  exact q.run X hX v σ G1 H1 (s.trans s1) (ev.mono s1) r _ fun σ2 G2 H2 δ2 s2 ev2 q2 => en.nx σ2 G2 H2 δ2 ((s.trans s1).trans s2) (s1.trans s2).mo ev2 q2
/-- name = value -/
theorem js_set {x : Str} {i : Nat} {p : Pos} (hv : (x, i) ∈ S.ss) (h : JE S Γ e δ fun d => K.nx (δ.set i (.fz d))) (hs : ∀ env, swapsWith e (some (.Name x p)) pos.line env = pure false := by intro _; rfl) : JS S Γ (.Assign [.Name x p] e pos) δ K := by
  refine ⟨fun X hX σ G H De s ev en => ?_⟩
  obtain ⟨h1, h2, h3⟩ := hX.loc hv
  refine PSw (ps_set (by rw [hX.N]; exact hX.so.nd) h1 h2 wE_pe (hs _) h3) ?_
  exact h.run X hX σ G H s ev _ fun v G1 H1 d s1 r q => en.nx _ G1 H1 _ (s.trans s1) s1.mo ((ev.mono s1).set r) q
theorem EnvOk.setOwn {KK : PySem.W.Frag} {G H H0 : Hp} {σ : St} {δ : List Sl} (h : EnvOk KK G H H0 σ δ) {i : Nat} {ds : List D} {vs : List V} {p : Addr} (h1 : H p = some (.lst vs)) (g : G p = none) (h0 : H0 p = none) (r : RepL KK G H ds vs)
    (fresh : ∀ (j : Nat) (es : List D), δ[j]? = some (.ow es) → σ[j]? ≠ some (some (.ref p))) : EnvOk KK G H H0 (σ.set i (some (.ref p))) (δ.set i (.ow ds)) := by
  refine ⟨by simp [h.len], fun j s e => ?_, fun j k ds' es q hjk e1 e2 q1 q2 => ?_⟩
  · by_cases z : i = j
    · subst z
      have hi : i < δ.length := by
        have := (List.getElem?_eq_some_iff.mp e).1
        simpa using this
      rw [List.getElem?_set_self hi] at e
      cases e
      exact ⟨p, vs, by rw [List.getElem?_set_self (by rw [h.len]; exact hi)], h1, g, h0, r⟩
    · rw [List.getElem?_set_ne z] at e ⊢
      exact h.at_ j s e
  · by_cases zj : i = j
    · subst zj
      have hi : i < δ.length := by
        have := (List.getElem?_eq_some_iff.mp e1).1
        simpa using this
      rw [List.getElem?_set_self (by rw [h.len]; exact hi)] at q1
      cases q1
      rw [List.getElem?_set_ne hjk] at e2 q2
      exact fresh k es e2 q2
    · rw [List.getElem?_set_ne zj] at e1 q1
      by_cases zk : i = k
      · subst zk
        have hi : i < δ.length := by
          have := (List.getElem?_eq_some_iff.mp e2).1
          simpa using this
        rw [List.getElem?_set_self (by rw [h.len]; exact hi)] at q2
        cases q2
        exact fresh j ds' e1 q1
      · rw [List.getElem?_set_ne zk] at e2 q2
        exact h.sep j k ds' es q hjk e1 e2 q1 q2
theorem EnvOk.fresh {KK : PySem.W.Frag} {G H H0 : Hp} {σ : St} {δ : List Sl} (h : EnvOk KK G H H0 σ δ) {p : Addr} (hp : H p = none) : ∀ (j : Nat) (es : List D), δ[j]? = some (.ow es) → σ[j]? ≠ some (some (.ref p)) := by
  intro j es e z
  obtain ⟨q, vs, e1, h1, _⟩ := h.at_ j _ e
  rw [z] at e1
  cases e1
  rw [hp] at h1
  cases h1
/-- name = a new list, of one's own -/
theorem js_setF {x : Str} {i : Nat} {p : Pos} (hv : (x, i) ∈ S.ss) (h : JF S Γ e δ fun ds => K.nx (δ.set i (.ow ds))) (hs : ∀ env, swapsWith e (some (.Name x p)) pos.line env = pure false := by intro _; rfl) : JS S Γ (.Assign [.Name x p] e pos) δ K := by
  refine ⟨fun X hX σ G H De s ev en => ?_⟩
  obtain ⟨h1, h2, h3⟩ := hX.loc hv
  refine PSw (ps_set (by rw [hX.N]; exact hX.so.nd) h1 h2 wE_pe (hs _) h3) ?_
  refine h.run X hX σ G H s ev _ fun p vs G1 H1 ds s1 hp gp h1 r q => ?_
  have h0 : Γ.H0 p = none := s.free hp
  refine en.nx _ G1 H1 _ (s.trans s1) s1.mo ((ev.mono s1).setOwn h1 gp h0 r ?_) q
  exact ev.fresh hp
/-- a list of one's own will never change from here on -/
theorem EnvOk.freeze {KK : PySem.W.Frag} {G H H0 : Hp} {σ : St} {δ : List Sl} (h : EnvOk KK G H H0 σ δ) {i : Nat} {ds : List D} (e : δ[i]? = some (.ow ds)) : ∃ p vs, H p = some (.lst vs) ∧ G p = none ∧ H0 p = none ∧ EnvOk KK (upd G p (.lst vs)) H H0 σ (δ.set i (.fz (.lst ds))) := by
  obtain ⟨p, vs, e1, h1, g, h0, r⟩ := h.at_ i _ e
  have mo : Mo KK G H (upd G p (.lst vs)) H := .freeze h1 g
  refine ⟨p, vs, h1, g, h0, by simp [h.len], fun j s q => ?_, fun j k ds' es q hjk e1' e2 q1 q2 => ?_⟩
  · by_cases z : i = j
    · subst z
      have hi : i < δ.length := by
        have := (List.getElem?_eq_some_iff.mp q).1
        simpa using this
      rw [List.getElem?_set_self hi] at q
      cases q
      refine ⟨_, e1, ?_⟩
      unfold Rep
      exact ⟨p, vs, rfl, upd_same, r.mo mo⟩
    · rw [List.getElem?_set_ne z] at q
      have q' := h.at_ j s q
      cases s with
      | no => trivial
      | fz d =>
        obtain ⟨v, e2, r2⟩ := q'
        exact ⟨v, e2, r2.mo mo⟩
      | ow ds2 =>
        obtain ⟨p2, vs2, e2, h2, g2, h02, r2⟩ := q'
        have ne : p2 ≠ p := by
          intro w
          subst w
          exact h.sep i j ds ds2 p2 z e q e1 e2
        exact ⟨p2, vs2, e2, h2, by rw [upd_ne ne]; exact g2, h02, r2.mo mo⟩
  · have hi : i < δ.length := (List.getElem?_eq_some_iff.mp e).1
    have nj : i ≠ j := by
      intro w; subst w; rw [List.getElem?_set_self hi] at e1'; cases e1'
    have nk : i ≠ k := by
      intro w; subst w; rw [List.getElem?_set_self hi] at e2; cases e2
    rw [List.getElem?_set_ne nj] at e1'
    rw [List.getElem?_set_ne nk] at e2
    exact h.sep j k ds' es q hjk e1' e2 q1 q2
theorem Stp.freezeOwn {KK : PySem.W.Frag} {G H G' H' : Hp} (s : Stp KK G H G' H') {p : Addr} {vs : List V} (hp : H p = none) (h : H' p = some (.lst vs)) (g : G' p = none) : Stp KK G H (upd G' p (.lst vs)) H' := s.freeze hp h g
theorem jss_freeze (i : Nat) {ds : List D} (e : δ[i]? = some (.ow ds)) (h : JSs S Γ sts (δ.set i (.fz (.lst ds))) K) : JSs S Γ sts δ K := by
  refine ⟨fun X hX σ G H De s ev en => ?_⟩
  obtain ⟨p, vs, h1, g, h0, ev'⟩ := ev.freeze e
  exact h.run X hX σ _ H De (s.freeze h0 h1 g) ev' (en.go (.freeze h1 g))
theorem js_freeze (i : Nat) {ds : List D} (e : δ[i]? = some (.ow ds)) (h : JS S Γ st (δ.set i (.fz (.lst ds))) K) : JS S Γ st δ K := by
  refine ⟨fun X hX σ G H De s ev en => ?_⟩
  obtain ⟨p, vs, h1, g, h0, ev'⟩ := ev.freeze e
  exact h.run X hX σ _ H De (s.freeze h0 h1 g) ev' (en.go (.freeze h1 g))
/-- name op= e -/
theorem js_aug {x : Str} {i : Nat} {p : Pos} {op : Operator} {d : D} (hv : (x, i) ∈ S.ss) (hδ : δ[i]? = some (.fz d)) (h : JE S Γ e δ fun y => OpD S Γ (inplaceOp op) d y fun z => K.nx (δ.set i (.fz z))) : JS S Γ (.AugAssign (.Name x p) op e pos) δ K := by
  refine ⟨fun X hX σ G H De s ev en => ?_⟩
  obtain ⟨h1, h2, h3⟩ := hX.loc hv
  obtain ⟨v, e1, r⟩ := ev.fz hδ
  refine PSw (ps_aug (ti := wO X (inplaceOp op)) (by rw [hX.N]; exact hX.so.nd) h1 h2 wE_pe (fun pins s σ H x y v u Q I r1 r2 h => h pins s σ v u I r1 r2) h3) ⟨v, e1, ?_⟩
  refine h.run X hX σ G H s ev _ fun u G1 H1 y s1 r1 q => ?_
  exact q.run X hX v u G1 H1 (s.trans s1) (r.mono s1) r1 _ fun z G2 H2 dz s2 r2 q2 => en.nx _ G2 H2 _ ((s.trans s1).trans s2) (s1.trans s2).mo (((ev.mono s1).mono s2).set r2) q2

/-! ### a, b = x, y with plain local names -/
theorem js_par {i j : Nat} {x y : Str} {px py pt : Pos} {kt k2 : Nat} {pt2 : Pos} (hi : (x, i) ∈ S.ss) (hj : (y, j) ∈ S.ss) (hij : i ≠ j) (hx : S.sc.names.lookup x = some .local) (hy : S.sc.names.lookup y = some .local)
    (h : JE S Γ a δ fun d => JE S Γ b δ fun d' => K.nx ((δ.set i (.fz d)).set j (.fz d')))
    (hw : ∀ env : Env, env.scope = S.sc → swappedStores [.Tuple [.Name x px, .Name y py] kt pt] (.Tuple [a, b] k2 pt2) env = pure (some [x, y]))
    (hsa : ∀ env, starEach [a, b] env = (false, eval a env) :: starEach [b] env := by intro _; rfl) (hsb : ∀ env, starEach [b] env = (false, eval b env) :: starEach [] env := by intro _; rfl)
    (hs : ∀ env, swapsWithSole [.Tuple [.Name x px, .Name y py] kt pt] (.Tuple [a, b] k2 pt2) pos.line env = pure false := by intro _; rfl) :
    JS S Γ (.Assign [.Tuple [.Name x px, .Name y py] kt pt] (.Tuple [a, b] k2 pt2) pos) δ K := by
  refine ⟨fun X hX σ G H De s ev en => ?_⟩
  obtain ⟨i1, i2, i3⟩ := hX.loc hi
  obtain ⟨j1, j2, j3⟩ := hX.loc hj
  refine PSw (ps_par hX.calm (by rw [hX.N]; exact hX.so.nd) i1 j1 hij (by rw [hX.sc]; exact hx) (by rw [hX.sc]; exact hy) (pa_cons wE_pe (pa_cons wE_pe pa_nil (hsb _)) (hsa _)) (hw _ hX.sc) (hs _)) ?_
  refine h.run X hX σ G H s ev _ fun v G1 H1 d s1 r1 h1 => ?_
  refine h1.run X hX σ G1 H1 (s.trans s1) (ev.mono s1) _ fun u G2 H2 d' s2 r2 h2 => ?_
  exact ⟨v, u, rfl, en.nx _ G2 H2 _ ((s.trans s1).trans s2) (s1.trans s2).mo ((((ev.mono s1).mono s2).set (r1.mono s2)).set r2) h2⟩

theorem Stp.write {KK : PySem.W.Frag} {G0 H0 G H : Hp} (s : Stp KK G0 H0 G H) {p : Addr} {o u : HO} (g : G p = none) (h0 : H0 p = none) : Stp KK G0 H0 G (upd H p u) := by
  refine ⟨s.exG, fun b w q => ?_, fun b w q n => ?_⟩
  · rw [upd_ne (ne_of_none q g)]; exact s.sub b w q
  · have z : b ≠ p := ne_of_none q h0
    obtain ⟨n', q'⟩ := s.own b w q n
    refine ⟨n', ?_⟩
    rcases q' with q' | ⟨q1, kvs, q2, q3⟩
    · exact .inl (by rw [upd_ne z]; exact q')
    · exact .inr ⟨q1, kvs, by rw [upd_ne z]; exact q2, q3.1, fun cells w => by
        obtain ⟨kv, w1, w2⟩ := q3.2 cells w
        have zz : b ≠ p := z
        exact ⟨kv, by rw [upd_ne zz]; exact w1, w2⟩⟩
theorem Mo.write {KK : PySem.W.Frag} {G H : Hp} {p : Addr} {vs : List V} {u : HO} (hp : H p = some (.lst vs)) : Mo KK G H G (upd H p u) := by
  refine ⟨Same.refl G, fun a cells n q => ⟨n, ?_⟩⟩
  obtain ⟨kvs, q1, q2⟩ := q
  have z : a ≠ p := by
    intro z
    subst z
    rw [hp] at q1
    cases q1
  exact ⟨kvs, by rw [upd_ne z]; exact q1, q2⟩
/-! ### loops -/
theorem atGet {α : Type} {xs : List α} {i : Nat} {x : α} (h : xs[i]? = some x) : i < xs.length := (List.getElem?_eq_some_iff.mp h).1
/-- what a loop's turn keeps -/
def Turns (S : Scp) (Γ : Cg) (tg : Expr) (body : List Stmt) (K : Kp) (I : Nat → List Sl → Prop) (i : Nat) (x : D) : Prop :=
  ∀ δ', I i δ' → JG S Γ tg x δ' fun δ2 => JSs S Γ body δ2 { nx := I (i + 1), rt := K.rt, bk := K.nx, ct := I (i + 1) }
/-- a walk of n turns over the data f 0, f 1, .. -/
structure ItOk (Γ : Cg) (G1 H1 : Hp) (J : It) (n : Nat) (f : Nat → D) : Prop where
  go : ∀ i G' H', Same G' H' → Mo Γ.K G1 H1 G' H' → i < n → J.go i H'
  yld : ∀ i G' H' x H2, Same G' H' → Mo Γ.K G1 H1 G' H' → i < n → J.yld i H' x H2 → ∃ G2, Stp Γ.K G' H' G2 H2 ∧ Rep Γ.K G2 H2 (f i) x
  stop : ∀ G' H', Same G' H' → Mo Γ.K G1 H1 G' H' → J.stop n H'
structure JI (S : Scp) (Γ : Cg) (tg e : Expr) (δ : List Sl) (P : Nat → (Nat → D) → Prop) : Prop where
  run : ∀ X, COk S Γ X → ∀ σ G H, Stp Γ.K Γ.G0 Γ.H0 G H → EnvOk Γ.K G H Γ.H0 σ δ → ∀ R : It → Hp → Prop, (∀ J G1 H1 n f, Stp Γ.K G H G1 H1 → ItOk Γ G1 H1 J n f → P n f → R J H1) → wI X tg e σ H R
def atD (ds : List D) (i : Nat) : D := (ds[i]?).getD .non
theorem atD_get {ds : List D} {i : Nat} (h : i < ds.length) : ds[i]? = some (atD ds i) := by
  unfold atD
  rw [List.getElem?_eq_getElem h]
  rfl
variable {tg : Expr} {PI' : Nat → (Nat → D) → Prop}
theorem ji_list (h : JE S Γ e δ fun d => ∃ ds, d = .lst ds ∧ PI' ds.length (atD ds)) : JI S Γ tg e δ PI' := by
  refine ⟨fun X hX σ G H s ev R k => ?_⟩
  refine PIw (pi_list wE_pe) ?_
  refine h.run X hX σ G H s ev _ fun v G1 H1 d s1 r q => ?_
  obtain ⟨ds, rfl, q⟩ := q
  unfold Rep at r
  obtain ⟨p, vs, rfl, h1, h2⟩ := r
  refine ⟨p, rfl, ⟨vs, .inl (.inl (s1.sub _ _ h1))⟩, k _ G1 H1 _ _ s1 ⟨?_, ?_, ?_⟩ q⟩
  · intro i G' H' e m hi
    have hlt : i < vs.length := by rw [h2.length]; exact hi
    have hv := List.getElem?_eq_getElem hlt
    exact ⟨vs, _, .inl (.inl (e _ _ (m.exG _ _ h1))), hv⟩
  · rintro i G' H' x H2 e m hi ⟨rfl, y⟩
    have hx := y vs (.inl (.inl (e _ _ (m.exG _ _ h1))))
    obtain ⟨d, hd, rd⟩ := h2.back hx
    rw [atD_get hi] at hd
    cases hd
    exact ⟨G', .refl e, rd.mo m⟩
  · intro G' H' e m
    exact ⟨vs, .inl (.inl (e _ _ (m.exG _ _ h1))), by rw [h2.length]; exact Nat.le_refl _⟩
theorem ji_tup (h : JE S Γ e δ fun d => ∃ ds, d = .tup ds ∧ PI' ds.length (atD ds)) : JI S Γ tg e δ PI' := by
  refine ⟨fun X hX σ G H s ev R k => ?_⟩
  refine PIw (pi_tup wE_pe) ?_
  refine h.run X hX σ G H s ev _ fun v G1 H1 d s1 r q => ?_
  obtain ⟨ds, rfl, q⟩ := q
  unfold Rep at r
  obtain ⟨p, vs, rfl, h1, h2⟩ := r
  have at_ : ∀ G' H', Same G' H' → Mo Γ.K G1 H1 G' H' → SqT X.K H' p vs := fun G' H' e m => by rw [hX.K]; exact Same.tup e (Same.tup m.exG h1)
  refine ⟨p, rfl, ⟨vs, at_ _ _ s1.sub .refl⟩, k _ G1 H1 _ _ s1 ⟨?_, ?_, ?_⟩ q⟩
  · intro i G' H' e m hi
    have hlt : i < vs.length := by rw [h2.length]; exact hi
    have hv := List.getElem?_eq_getElem hlt
    exact ⟨vs, _, at_ _ _ e m, hv⟩
  · rintro i G' H' x H2 e m hi ⟨rfl, y⟩
    have hx := y vs (at_ _ _ e m)
    obtain ⟨d, hd, rd⟩ := h2.back hx
    rw [atD_get hi] at hd
    cases hd
    exact ⟨G', .refl e, rd.mo m⟩
  · intro G' H' e m
    exact ⟨vs, at_ _ _ e m, by rw [h2.length]; exact Nat.le_refl _⟩
theorem itok_rng {G1 H1 : Hp} {lo : Int} {n : Nat} : ItOk Γ G1 H1 (Itr lo n) n (fun i => .int (lo + i)) := by
  refine ⟨fun i _ _ _ _ hi => hi, ?_, fun _ _ _ _ => Nat.le_refl _⟩
  rintro i G' H' x H2 e m hi ⟨rfl, rfl⟩
  exact ⟨G', .refl e, rep_int⟩
theorem ji_rng1 {p1 p2 : Pos} (hg : ("range" : Str) ∈ S.gl) (hm : Γ.mg "range" = none) (hs : ∀ env, starEach [a] env = [(false, eval a env)])
    (h : JE S Γ a δ fun d => ∃ n, d = .int n ∧ -(2 ^ 62) ≤ n ∧ n < 2 ^ 62 ∧ PI' n.toNat (fun i => .int (0 + i))) : JI S Γ tg (.Call (.Name "range" p1) [a] [] p2) δ PI' := by
  refine ⟨fun X hX σ G H s ev R k => ?_⟩
  have hk : Gl X "range" := by show X.env.scope.names.lookup _ = _; rw [hX.sc]; exact hX.so.gl _ hg
  refine PIw (pi_range1 hk (by rw [hX.mg]; exact hm) (pa_cons wE_pe pa_nil (hs _)) (hs _)) ?_
  refine h.run X hX σ G H s ev _ fun v G1 H1 d s1 r q => ?_
  obtain ⟨n, rfl, b1, b2, q⟩ := q
  unfold Rep at r
  subst r
  exact ⟨n, rfl, b1, b2, k _ G1 H1 _ _ s1 itok_rng q⟩
theorem ji_rng2 {p1 p2 : Pos} (hg : ("range" : Str) ∈ S.gl) (hm : Γ.mg "range" = none) (hs : ∀ env, starEach [a, b] env = [(false, eval a env), (false, eval b env)]) (hs2 : ∀ env, starEach [b] env = [(false, eval b env)])
    (h : JE S Γ a δ fun d => JE S Γ b δ fun d' => ∃ m n, d = .int m ∧ d' = .int n ∧ (-(2 ^ 62) ≤ m ∧ m < 2 ^ 62 ∧ -(2 ^ 62) ≤ n ∧ n < 2 ^ 62) ∧ PI' (n - m).toNat (fun i => .int (m + i))) : JI S Γ tg (.Call (.Name "range" p1) [a, b] [] p2) δ PI' := by
  refine ⟨fun X hX σ G H s ev R k => ?_⟩
  have hk : Gl X "range" := by show X.env.scope.names.lookup _ = _; rw [hX.sc]; exact hX.so.gl _ hg
  refine PIw (pi_range2 hk (by rw [hX.mg]; exact hm) (pa_cons wE_pe (pa_cons wE_pe pa_nil (hs2 _)) (by rw [hs, hs2])) (hs _) (hs2 _)) ?_
  refine h.run X hX σ G H s ev _ fun v G1 H1 d s1 r q => ?_
  refine q.run X hX σ G1 H1 (s.trans s1) (ev.mono s1) _ fun v2 G2 H2 d2 s2 r2 q => ?_
  obtain ⟨m, n, rfl, rfl, b, q⟩ := q
  unfold Rep at r r2
  subst r r2
  exact ⟨m, n, rfl, b, k _ G2 H2 _ _ (s1.trans s2) itok_rng q⟩
/-- for tg in e -/
theorem js_for {body : List Stmt} (hb : Γ.blk = false) (h : JI S Γ tg e δ fun n f => ∃ I : Nat → List Sl → Prop, I 0 δ ∧ (∀ i, i < n → Turns S Γ tg body K I i (f i)) ∧ ∀ δ', I n δ' → K.nx δ')
    (hs : ∀ env x, foldedSetIterable e env x = pure x := by intros; rfl) : JS S Γ (.For tg e body [] pos) δ K := by
  refine ⟨fun X hX σ G H De s ev en => ?_⟩
  refine PSw (ps_for (hX.def_ hb).2.2.2 hX.calm wI_pi wG_pg wSs_pss (hs _)) ?_
  refine h.run X hX σ G H s ev _ fun J G1 H1 n f s1 it q => ?_
  obtain ⟨I, i0, turn, fin⟩ := q
  refine ⟨fun i m σ' H' => m = n - i ∧ i ≤ n ∧ ∃ G' δ', Stp Γ.K Γ.G0 Γ.H0 G' H' ∧ Mo Γ.K G1 H1 G' H' ∧ EnvOk Γ.K G' H' Γ.H0 σ' δ' ∧ I i δ', ⟨n, by simp, Nat.zero_le _, G1, δ, s.trans s1, .refl, ev.mono s1, i0⟩, ?_⟩
  rintro i m σ' H' ⟨rfl, hi, G', δ', s', m', ev', ii⟩
  by_cases hlt : i < n
  · refine .inr ⟨it.go i G' H' s'.sub m' hlt, fun σ2 H2 => ∃ G2 δ2, Stp Γ.K Γ.G0 Γ.H0 G2 H2 ∧ Mo Γ.K G1 H1 G2 H2 ∧ EnvOk Γ.K G2 H2 Γ.H0 σ2 δ2 ∧ I (i + 1) δ2, fun σ2 H2 h2 => ⟨n - (i + 1), by omega, rfl, hlt, h2⟩, fun x H2 y => ?_⟩
    obtain ⟨G2, s2, rx⟩ := it.yld i G' H' x H2 s'.sub m' hlt y
    refine (turn i hlt δ' ii).run X hX x σ' G2 H2 (s'.trans s2) (ev'.mono s2) rx _ fun σ3 G3 H3 δ3 s3 ev3 q3 => ?_
    refine q3.run X hX σ3 G3 H3 _ ((s'.trans s2).trans s3) ev3 ⟨?_, ?_, ?_, ?_⟩
    · exact fun σ4 G4 H4 δ4 s4 m4 ev4 q4 => ⟨G4, δ4, s4, ((m'.trans s2.mo).trans s3.mo).trans m4, ev4, q4⟩
    · exact fun σ4 G4 H4 δ4 s4 m4 ev4 q4 => en.nx σ4 G4 H4 δ4 s4 ((((s1.mo.trans m').trans s2.mo).trans s3.mo).trans m4) ev4 q4
    · exact fun σ4 G4 H4 δ4 s4 m4 ev4 q4 => ⟨G4, δ4, s4, ((m'.trans s2.mo).trans s3.mo).trans m4, ev4, q4⟩
    · exact en.rt
  · have e : i = n := by omega
    subst e
    exact .inl ⟨it.stop G' H' s'.sub m', en.nx σ' G' H' δ' s' (s1.mo.trans m') ev' (fin δ' ii)⟩

/-! ### list comprehensions -/
def wipeD (δ : List Sl) : List Nat → List Sl
  | [] => δ
  | v :: vs => (wipeD δ vs).set v .no
theorem EnvOk.wipe {KK : PySem.W.Frag} {G H H0 : Hp} {σ : L2.St} {δ : List Sl} (h : EnvOk KK G H H0 σ δ) : ∀ vs : List Nat, EnvOk KK G H H0 (L2.wipe σ vs) (wipeD δ vs)
  | [] => h
  | v :: vs => (h.wipe vs).forget v none
theorem wipe_set {σ : L2.St} {i : Nat} {o : Option V} : ∀ {vs : List Nat}, i ∈ vs → L2.wipe (σ.set i o) vs = L2.wipe σ vs
  | v :: vs, h => by
    unfold L2.wipe
    by_cases z : i ∈ vs
    · rw [wipe_set z]
    · have e : i = v := by
        rcases List.mem_cons.mp h with e | e
        · exact e
        · exact absurd e z
      subst e
      have : ∀ vs : List Nat, i ∉ vs → L2.wipe (σ.set i o) vs = (L2.wipe σ vs).set i o := by
        intro vs
        induction vs with
        | nil => intro _; rfl
        | cons w ws ih =>
          intro hz
          simp only [List.mem_cons, not_or] at hz
          unfold L2.wipe
          rw [ih hz.2, List.set_comm _ _ hz.1]
      rw [this vs z, List.set_set]
theorem wipe_wipe {σ : L2.St} : ∀ {vs us : List Nat}, (∀ v ∈ us, v ∈ vs) → L2.wipe (L2.wipe σ us) vs = L2.wipe σ vs
  | vs, [], _ => rfl
  | vs, u :: us, h => by
    show L2.wipe ((L2.wipe σ us).set u none) vs = _
    rw [wipe_set (h u (.head _)), wipe_wipe fun v hv => h v (.tail _ hv)]
/-- a target within a comprehension: only its own slots vs change -/
structure JGW (S : Scp) (Γ : Cg) (vs : List Nat) (tg : Expr) (d : D) (δ : List Sl) (P : List Sl → Prop) : Prop where
  run : ∀ X, COk S Γ X → ∀ v σ G H, Stp Γ.K Γ.G0 Γ.H0 G H → EnvOk Γ.K G H Γ.H0 σ δ → Rep Γ.K G H d v → ∀ Q : L2.St → Hp → Prop, (∀ σ' G' H' δ', L2.wipe σ' vs = L2.wipe σ vs → Stp Γ.K G H G' H' → EnvOk Γ.K G' H' Γ.H0 σ' δ' → P δ' → Q σ' H') → wG X tg v σ H Q
structure JGWs (S : Scp) (Γ : Cg) (vs : List Nat) (tgs : List Expr) (ds : List D) (δ : List Sl) (P : List Sl → Prop) : Prop where
  run : ∀ X, COk S Γ X → ∀ us σ G H, Stp Γ.K Γ.G0 Γ.H0 G H → EnvOk Γ.K G H Γ.H0 σ δ → RepL Γ.K G H ds us → ∀ Q : L2.St → Hp → Prop, (∀ σ' G' H' δ', L2.wipe σ' vs = L2.wipe σ vs → Stp Γ.K G H G' H' → EnvOk Γ.K G' H' Γ.H0 σ' δ' → P δ' → Q σ' H') → wGs X tgs us σ H Q
theorem jgw_name {vs : List Nat} {x : Str} {i : Nat} {d : D} {Q : List Sl → Prop} (hv : (x, i) ∈ S.ss) (hi : i ∈ vs) (h : Q (δ.set i (.fz d))) : JGW S Γ vs (.Name x pos) d δ Q := by
  refine ⟨fun X hX v σ G H s ev r Q' k => ?_⟩
  obtain ⟨h1, h2, h3⟩ := hX.loc hv
  exact PGw (pg_name (by rw [hX.N]; exact hX.so.nd) h1 h2 h3) (k _ G H _ (wipe_set hi) (.refl s.sub) (ev.set r) h)
theorem jgws_nil {vs : List Nat} {Q : List Sl → Prop} (h : Q δ) : JGWs S Γ vs [] [] δ Q := by
  refine ⟨fun X hX us σ G H s ev r Q' k => ?_⟩
  unfold RepL at r
  exact PGsw pgs_nil ⟨r, k _ G H _ rfl (.refl s.sub) ev h⟩
theorem jgws_cons {vs : List Nat} {d : D} {ds : List D} {Q : List Sl → Prop} (h : JGW S Γ vs e d δ fun δ' => JGWs S Γ vs es ds δ' Q) (hs : ∀ env, (assignEach (e :: es) env).map (·.2) = assign e env :: (assignEach es env).map (·.2) := by intro _; rfl) : JGWs S Γ vs (e :: es) (d :: ds) δ Q := by
  refine ⟨fun X hX us σ G H s ev r Q' k => ?_⟩
  unfold RepL at r
  obtain ⟨v, vr, rfl, r1, r2⟩ := r
  refine PGsw (pgs_cons wG_pg wGs_pgs (hs _)) ⟨v, vr, rfl, ?_⟩
  refine h.run X hX v σ G H s ev r1 _ fun σ1 G1 H1 δ1 w1 s1 ev1 q => ?_
  exact q.run X hX vr σ1 G1 H1 (s.trans s1) ev1 (r2.mono s1) Q' fun σ2 G2 H2 δ2 w2 s2 ev2 q2 => k σ2 G2 H2 δ2 (w2.trans w1) (s1.trans s2) ev2 q2
theorem jgw_tup {vs : List Nat} {kk : Nat} {ds : List D} {Q : List Sl → Prop} {n : Nat} (hl : ds.length = n) (h : JGWs S Γ vs es ds δ Q) (hn : ∀ env, (assignEach es env).length = n := by intro _; rfl) (hst : ∀ env, (assignEach es env).findIdx? (·.1) = none := by intro _; rfl) : JGW S Γ vs (.Tuple es kk pos) (.tup ds) δ Q := by
  refine ⟨fun X hX v σ G H s ev r Q' k => ?_⟩
  unfold Rep at r
  obtain ⟨p, us, rfl, h1, h2⟩ := r
  refine PGw (pg_tup hX.calm wGs_pgs (hn _) (hst _)) ⟨p, us, rfl, by rw [hX.K]; exact Same.tup s.sub h1, by rw [h2.length]; exact hl, ?_⟩
  exact h.run X hX us σ G H s ev h2 Q' k
/-- the tests of a comprehension -/
structure JTs (S : Scp) (Γ : Cg) (ifs : List Expr) (δ : List Sl) (P : Bool → Prop) : Prop where
  run : ∀ X, COk S Γ X → ∀ σ G H, Stp Γ.K Γ.G0 Γ.H0 G H → EnvOk Γ.K G H Γ.H0 σ δ → ∀ pins s, Inv X pins σ H s → ∀ Q : Bool → Hp → Prop, (∀ b G' H', Stp Γ.K G H G' H' → P b → Q b H') →
    wpAny (model X.prog X.w) X.A (forIn ifs true fun c r => if r = true then do let ok ← isTrue c X.env (eval c X.env); pure (ForInStep.yield ok) else pure (ForInStep.yield r)) (TP X pins σ Q) X.xe s
theorem jts_nil (h : PB true) : JTs S Γ [] δ PB := ⟨fun X hX σ G H s ev pins s0 I Q k => pts_nil.run pins s0 σ H Q I (k true G H (.refl s.sub) h)⟩
theorem jts_one (h : JT S Γ c δ PB) : JTs S Γ [c] δ PB := ⟨fun X hX σ G H s ev pins s0 I Q k => (pts_one wT_pt).run pins s0 σ H Q I (h.run X hX σ G H s ev Q k)⟩
def wTs (X : Cx) (ifs : List Expr) : TT := fun σ H Q => ∀ pins s, Inv X pins σ H s → wpAny (model X.prog X.w) X.A (forIn ifs true fun c r => if r = true then do let ok ← isTrue c X.env (eval c X.env); pure (ForInStep.yield ok) else pure (ForInStep.yield r)) (TP X pins σ Q) X.xe s
abbrev Cg.inBlk (Γ : Cg) : Cg := { Γ with ex := fun _ _ _ _ => False, blk := true }
/-- what stands of a comprehension's block -/
structure BlkS (S S' : Scp) (scope : Scope) (own : List (Str × Nat)) : Prop where
  ok : BlkOk S.N S.sc scope own
  so : S'.Ok
  N : S'.N = S.N
  sc : S'.sc = relS scope S.sc
  lv : S'.lv = S.lv
  st : ∀ x ∈ S'.ss, S'.sc.names.lookup x.1 = some .local
theorem COk.blk {S' : Scp} {scope : Scope} {own : List (Str × Nat)} (B : BlkS S S' scope own) {X : Cx} (hX : COk S Γ X) (s : Shared) (H : Hp) (C : Addr) (cl : List (Str × Addr)) (fp : List Addr) : COk S' Γ.inBlk (X.blk s H scope (compEnvC scope cl C X.env) fp) := by
  have e : (compEnvC scope cl C X.env).scope = S'.sc := by rw [B.sc, ← hX.sc]; rfl
  refine ⟨B.so, hX.prog, hX.w, hX.K, hX.mg, hX.base, by rw [B.N]; exact hX.N, e, hX.calm, by rw [B.lv]; exact hX.room, fun x hx => .inr ?_, (fun z => Bool.noConfusion z), ?_⟩
  · show (compEnvC scope cl C X.env).scope.names.lookup x.1 = _
    rw [e]
    exact B.st x hx
  · rintro u s' ⟨a, B, sI, pins, σ, H, cls, d, e, I, nb, up, sky, na, os, ag, G, δ, ns, ds, _, _, _, z⟩
    exact z.elim
theorem lc_t {S' : Scp} {elt iter : Expr} {ifs : List Expr} {scope : Scope} {own : List (Str × Nat)} (B : BlkS S S' scope own)
    (h : JI S Γ tg iter δ fun n f => ∃ A : Nat → List D → Prop, A 0 [] ∧ (∀ i acc, i < n → A i acc → JGW S' Γ.inBlk (own.map (·.2)) tg (f i) (wipeD δ (own.map (·.2))) fun δ2 => JTs S' Γ.inBlk ifs δ2 fun t => if t = true then JE S' Γ.inBlk elt δ2 fun d => acc.length < sizeLine ∧ A (i + 1) (acc ++ [d]) else A (i + 1) acc) ∧ ∀ acc, A n acc → PL acc)
    {X : Cx} (hX : COk S Γ X) {σ : L2.St} {G H : Hp} (s : Stp Γ.K Γ.G0 Γ.H0 G H) (ev : EnvOk Γ.K G H Γ.H0 σ δ) {Q : VK} (k : ∀ p vs G' H' ds, Stp Γ.K G H G' H' → H p = none → G' p = none → H' p = some (.lst vs) → RepL Γ.K G' H' ds vs → PL ds → Q (.ref p) H') :
    tLc (wI X tg iter) (fun v σ H Q => ∀ s H0 C cl fp, wG (X.blk s H0 scope (compEnvC scope cl C X.env) fp) tg v σ H Q) (fun σ H Q => ∀ s H0 C cl fp, wTs (X.blk s H0 scope (compEnvC scope cl C X.env) fp) ifs σ H Q) (fun σ H Q => ∀ s H0 C cl fp, wE (X.blk s H0 scope (compEnvC scope cl C X.env) fp) elt σ H Q) (own.map (·.2)) σ H Q := by
  refine h.run X hX σ G H s ev _ fun J G1 H1 n f s1 it q => ?_
  obtain ⟨A, a0, turn, fin⟩ := q
  intro p hp
  have g1 : G1 p = none := s1.sub.free hp
  have h0 : H p = none := s1.free hp
  refine ⟨fun i m H' => m = n - i ∧ i ≤ n ∧ ∃ G' acc ds, Stp Γ.K G1 H1 G' H' ∧ G' p = none ∧ H' p = some (.lst acc) ∧ RepL Γ.K G' H' ds acc ∧ A i ds, ⟨n, by simp, Nat.zero_le _, G1, [], [], .newM s1.sub hp, g1, upd_same, .nil, a0⟩, ?_⟩
  rintro i m H' ⟨rfl, hi, G', acc, ds, s', g', hp', r', ai⟩
  have st' := (s.trans s1).trans s'
  by_cases hlt : i < n
  · refine .inr ⟨it.go i G' H' s'.sub s'.mo hlt, fun H2 => ∃ G2 acc2 ds2, Stp Γ.K G1 H1 G2 H2 ∧ G2 p = none ∧ H2 p = some (.lst acc2) ∧ RepL Γ.K G2 H2 ds2 acc2 ∧ A (i + 1) ds2, fun H2 h2 => ⟨n - (i + 1), by omega, rfl, hlt, h2⟩, fun x H2 y => ?_⟩
    obtain ⟨G2, s2, rx⟩ := it.yld i G' H' x H2 s'.sub s'.mo hlt y
    have own2 := s2.own p _ hp' g'
    intro s0 H0 C cl fp
    refine (turn i ds hlt ai).run _ (COk.blk B hX s0 H0 C cl fp) x _ G2 H2 (st'.trans s2) ((((ev.mono s1).mono s').mono s2).wipe _) rx _ fun σ3 G3 H3 δ3 w3 s3 ev3 q3 => ?_
    refine ⟨?_, ?_⟩
    · rw [w3]
      exact wipe_wipe fun _ z => z
    intro s0 H0 C cl fp pins s00 I
    refine q3.run _ (COk.blk B hX s0 H0 C cl fp) σ3 G3 H3 ((st'.trans s2).trans s3) ev3 pins s00 I _ fun t G4 H4 s4 q4 => ?_
    have s24 := (s2.trans s3).trans s4
    have own4 := s24.own p _ hp' g'
    have hp4 : H4 p = some (.lst acc) := own4.2.elim id fun z => z.1.elim
    cases t with
    | false =>
      refine L2.iteF ⟨G4, acc, ds, s'.trans s24, own4.1, hp4, r'.mono s24, ?_⟩
      exact q4
    | true =>
      refine L2.iteT ?_
      intro s0 H0 C cl fp
      refine (show JE _ _ _ _ _ from q4).run _ (COk.blk B hX s0 H0 C cl fp) σ3 G4 H4 (st'.trans s24) (ev3.mono s4) _ fun y5 G5 H5 d5 s5 r5 q5 => ?_
      have own5 := s5.own p _ hp4 own4.1
      have hp5 : H5 p = some (.lst acc) := own5.2.elim id fun z => z.1.elim
      have rr := (r'.mono s24).mono s5
      refine ⟨acc, hp5, by rw [r'.length]; exact q5.1, G5, acc ++ [y5], ds ++ [d5], ((s'.trans s24).trans s5).write (o := .lst acc) own5.1 hp, own5.1, upd_same, ?_, q5.2⟩
      exact (rr.append (.one r5)).mo (.write hp5)
  · have e : i = n := by omega
    subst e
    exact .inl ⟨it.stop G' H' s'.sub s'.mo, k p acc G' H' ds (s1.trans s') h0 g' hp' r' (fin ds ai)⟩
theorem jf_lc {S' : Scp} {elt iter : Expr} {ifs : List Expr} {scope : Scope} {own : List (Str × Nat)} (B : BlkS S S' scope own)
    (h : JI S Γ tg iter δ fun n f => ∃ A : Nat → List D → Prop, A 0 [] ∧ (∀ i acc, i < n → A i acc → JGW S' Γ.inBlk (own.map (·.2)) tg (f i) (wipeD δ (own.map (·.2))) fun δ2 => JTs S' Γ.inBlk ifs δ2 fun t => if t = true then JE S' Γ.inBlk elt δ2 fun d => acc.length < sizeLine ∧ A (i + 1) (acc ++ [d]) else A (i + 1) acc) ∧ ∀ acc, A n acc → PL acc)
    (hs : ∀ env x, foldedSetIterable iter env x = pure x := by intros; rfl) : JF S Γ (.ListComp elt [⟨tg, iter, ifs, 0⟩] scope pos) δ PL := by
  refine ⟨fun X hX σ G H s ev Q k => ?_⟩
  refine PEw (pe_lc hX.calm (by rw [hX.N]; exact hX.so.nd) wI_pi (by rw [hX.N, hX.sc]; exact B.ok) ?_ ?_ ?_ (hs _)) (lc_t B h hX s ev k)
  · exact fun s H C cl fp => ⟨fun pins s0 σ H0 v u Q I r q => q s H C cl fp pins s0 u I r⟩
  · exact fun s H C cl fp => ⟨fun pins s0 σ H0 Q I q => q s H C cl fp pins s0 I⟩
  · exact fun s H C cl fp => ⟨fun pins s0 σ H0 Q I q => q s H C cl fp pins s0 I⟩
/-- name = [..] on one line -/
theorem js_setLc {S' : Scp} {elt iter : Expr} {ifs : List Expr} {scope : Scope} {own : List (Str × Nat)} {x : Str} {i : Nat} {py sp : Pos} (B : BlkS S S' scope own) (hv : (x, i) ∈ S.ss) (hx : S.sc.names.lookup x = some .local) (hk : S.sc.kind = .function) (hl : (py.line == pos.line) = true)
    (ha : (scope.names.any fun (n, k) => n == x && (k == .local || k == .cell)) = false)
    (h : JI S Γ tg iter δ fun n f => ∃ A : Nat → List D → Prop, A 0 [] ∧ (∀ i acc, i < n → A i acc → JGW S' Γ.inBlk (own.map (·.2)) tg (f i) (wipeD δ (own.map (·.2))) fun δ2 => JTs S' Γ.inBlk ifs δ2 fun t => if t = true then JE S' Γ.inBlk elt δ2 fun d => acc.length < sizeLine ∧ A (i + 1) (acc ++ [d]) else A (i + 1) acc) ∧ ∀ acc, A n acc → K.nx (δ.set i (.ow acc)))
    (hs : ∀ env x, foldedSetIterable iter env x = pure x := by intros; rfl) : JS S Γ (.Assign [.Name x py] (.ListComp elt [⟨tg, iter, ifs, 0⟩] scope pos) sp) δ K := by
  refine ⟨fun X hX σ G H De s ev en => ?_⟩
  obtain ⟨h1, h2, h3⟩ := hX.loc hv
  refine PSw (ps_setLc (g := fun v σ H Q => ∀ s H0 C cl fp, wG (X.blk s H0 scope (compEnvC scope cl C X.env) fp) tg v σ H Q) (tt := fun σ H Q => ∀ s H0 C cl fp, wTs (X.blk s H0 scope (compEnvC scope cl C X.env) fp) ifs σ H Q) (te := fun σ H Q => ∀ s H0 C cl fp, wE (X.blk s H0 scope (compEnvC scope cl C X.env) fp) elt σ H Q) hX.calm (by rw [hX.N]; exact hX.so.nd) h1 (by rw [hX.sc]; exact hx) (sw_true (by rw [hX.sc]; exact hk) (by rw [hX.sc]; exact hx) hl ha) wI_pi (by rw [hX.N, hX.sc]; exact B.ok) ?_ ?_ ?_ (hs _)) ?_
  · exact fun s H C cl fp => ⟨fun pins s0 σ H0 v u Q I r q => q s H C cl fp pins s0 u I r⟩
  · exact fun s H C cl fp => ⟨fun pins s0 σ H0 Q I q => q s H C cl fp pins s0 I⟩
  · exact fun s H C cl fp => ⟨fun pins s0 σ H0 Q I q => q s H C cl fp pins s0 I⟩
  refine lc_t (PL := fun acc => K.nx (δ.set i (.ow acc))) B h hX s ev fun p vs G1 H1 ds s1 hp gp h1 r q => ?_
  have h0 : Γ.H0 p = none := s.free hp
  exact en.nx _ G1 H1 _ (s.trans s1) s1.mo ((ev.mono s1).setOwn h1 gp h0 r (ev.fresh hp)) q
theorem js_setLcZ {S' : Scp} {elt iter : Expr} {ifs : List Expr} {scope : Scope} {own : List (Str × Nat)} {x : Str} {i : Nat} {py sp : Pos} (B : BlkS S S' scope own) (hv : (x, i) ∈ S.ss) (hx : S.sc.names.lookup x = some .local) (hk : S.sc.kind = .function) (hl : (py.line == pos.line) = true)
    (ha : (scope.names.any fun (n, k) => n == x && (k == .local || k == .cell)) = false)
    (h : JI S Γ tg iter δ fun n f => ∃ A : Nat → List D → Prop, A 0 [] ∧ (∀ i acc, i < n → A i acc → JGW S' Γ.inBlk (own.map (·.2)) tg (f i) (wipeD δ (own.map (·.2))) fun δ2 => JTs S' Γ.inBlk ifs δ2 fun t => if t = true then JE S' Γ.inBlk elt δ2 fun d => acc.length < sizeLine ∧ A (i + 1) (acc ++ [d]) else A (i + 1) acc) ∧ ∀ acc, A n acc → K.nx (δ.set i (.fz (.lst acc))))
    (hs : ∀ env x, foldedSetIterable iter env x = pure x := by intros; rfl) : JS S Γ (.Assign [.Name x py] (.ListComp elt [⟨tg, iter, ifs, 0⟩] scope pos) sp) δ K := by
  refine ⟨fun X hX σ G H De s ev en => ?_⟩
  obtain ⟨h1, h2, h3⟩ := hX.loc hv
  refine PSw (ps_setLc (g := fun v σ H Q => ∀ s H0 C cl fp, wG (X.blk s H0 scope (compEnvC scope cl C X.env) fp) tg v σ H Q) (tt := fun σ H Q => ∀ s H0 C cl fp, wTs (X.blk s H0 scope (compEnvC scope cl C X.env) fp) ifs σ H Q) (te := fun σ H Q => ∀ s H0 C cl fp, wE (X.blk s H0 scope (compEnvC scope cl C X.env) fp) elt σ H Q) hX.calm (by rw [hX.N]; exact hX.so.nd) h1 (by rw [hX.sc]; exact hx) (sw_true (by rw [hX.sc]; exact hk) (by rw [hX.sc]; exact hx) hl ha) wI_pi (by rw [hX.N, hX.sc]; exact B.ok) ?_ ?_ ?_ (hs _)) ?_
  · exact fun s H C cl fp => ⟨fun pins s0 σ H0 v u Q I r q => q s H C cl fp pins s0 u I r⟩
  · exact fun s H C cl fp => ⟨fun pins s0 σ H0 Q I q => q s H C cl fp pins s0 I⟩
  · exact fun s H C cl fp => ⟨fun pins s0 σ H0 Q I q => q s H C cl fp pins s0 I⟩
  refine lc_t (PL := fun acc => K.nx (δ.set i (.fz (.lst acc)))) B h hX s ev fun p vs G1 H1 ds s1 hp gp h1 r q => ?_
  have s2 := s1.freeze hp h1 gp
  exact en.nx _ _ H1 _ (s.trans s2) s2.mo ((ev.mono s2).set (by unfold Rep; exact ⟨p, vs, rfl, upd_same, r.mo (.freeze h1 gp)⟩)) q
/-- while, by what holds and a measure of it -/
theorem js_while {body : List Stmt} (hb : Γ.blk = false) (I : Nat → List Sl → Prop) (m0 : Nat) (h0 : I m0 δ)
    (turn : ∀ m δ', I m δ' → JT S Γ c δ' fun t => if t = true then JSs S Γ body δ' { nx := fun δ2 => ∃ m', m' < m ∧ I m' δ2, rt := K.rt, bk := K.nx, ct := fun δ2 => ∃ m', m' < m ∧ I m' δ2 } else K.nx δ') : JS S Γ (.While c body [] pos) δ K := by
  refine ⟨fun X hX σ G H De s ev en => ?_⟩
  refine PSw (ps_while (hX.def_ hb).2.2.2 wT_pt wSs_pss) ?_
  refine ⟨fun m σ' H' => ∃ G' δ', Stp Γ.K Γ.G0 Γ.H0 G' H' ∧ Mo Γ.K G H G' H' ∧ EnvOk Γ.K G' H' Γ.H0 σ' δ' ∧ I m δ', ⟨m0, G, δ, s, .refl, ev, h0⟩, ?_⟩
  rintro m σ' H' ⟨G', δ', s', m', ev', ii⟩
  refine (turn m δ' ii).run X hX σ' G' H' s' ev' _ fun t G1 H1 s1 p => ?_
  cases t with
  | false => exact L2.iteF (en.nx σ' G1 H1 δ' (s'.trans s1) (m'.trans s1.mo) (ev'.mono s1) p)
  | true =>
    refine L2.iteT ⟨fun σ2 H2 => ∃ G2 δ2, Stp Γ.K Γ.G0 Γ.H0 G2 H2 ∧ Mo Γ.K G H G2 H2 ∧ EnvOk Γ.K G2 H2 Γ.H0 σ2 δ2 ∧ ∃ m', m' < m ∧ I m' δ2, ?_, ?_⟩
    · rintro σ2 H2 ⟨G2, δ2, s2, m2, ev2, k, hk, ik⟩
      exact ⟨k, hk, G2, δ2, s2, m2, ev2, ik⟩
    · refine (show JSs _ _ _ _ _ from p).run X hX σ' G1 H1 _ (s'.trans s1) (ev'.mono s1) ⟨?_, ?_, ?_, ?_⟩
      · exact fun σ3 G3 H3 δ3 s3 m3 ev3 q3 => ⟨G3, δ3, s3, (m'.trans s1.mo).trans m3, ev3, q3⟩
      · exact fun σ3 G3 H3 δ3 s3 m3 ev3 q3 => en.nx σ3 G3 H3 δ3 s3 ((m'.trans s1.mo).trans m3) ev3 q3
      · exact fun σ3 G3 H3 δ3 s3 m3 ev3 q3 => ⟨G3, δ3, s3, (m'.trans s1.mo).trans m3, ev3, q3⟩
      · exact en.rt

/-! ### x.append(e) at a list of one's own -/
theorem EnvOk.write {KK : PySem.W.Frag} {G H H0 : Hp} {σ : St} {δ : List Sl} (h : EnvOk KK G H H0 σ δ) {i : Nat} {ds es : List D} {p : Addr} {us : List V} (e : δ[i]? = some (.ow ds)) (ep : σ[i]? = some (some (.ref p))) (g : G p = none) (h0 : H0 p = none) {vs : List V} (hp : H p = some (.lst vs))
    (r : RepL KK G H es us) : EnvOk KK G (upd H p (.lst us)) H0 σ (δ.set i (.ow es)) := by
  have mo : Mo KK G H G (upd H p (.lst us)) := by
    refine ⟨Same.refl G, fun a cells n q => ⟨n, ?_⟩⟩
    obtain ⟨kvs, q1, q2⟩ := q
    have z : a ≠ p := by
      intro z
      subst z
      rw [hp] at q1
      cases q1
    exact ⟨kvs, by rw [upd_ne z]; exact q1, q2⟩
  have hi : i < δ.length := atGet e
  refine ⟨by simp [h.len], fun j s q => ?_, fun j k ds' es' x hjk e1 e2 q1 q2 => ?_⟩
  · by_cases z : i = j
    · subst z
      rw [List.getElem?_set_self hi] at q
      cases q
      exact ⟨p, us, ep, upd_same, g, h0, r.mo mo⟩
    · rw [List.getElem?_set_ne z] at q
      have q' := h.at_ j s q
      cases s with
      | no => trivial
      | fz d =>
        obtain ⟨v, e2, r2⟩ := q'
        exact ⟨v, e2, r2.mo mo⟩
      | ow ds2 =>
        obtain ⟨p2, vs2, e2, h2, g2, h02, r2⟩ := q'
        have ne : p2 ≠ p := by
          intro w
          subst w
          exact h.sep i j ds ds2 p2 z e q ep e2
        exact ⟨p2, vs2, e2, by rw [upd_ne ne]; exact h2, g2, h02, r2.mo mo⟩
  · have get : ∀ {j : Nat} {ds' : List D}, (δ.set i (.ow es))[j]? = some (.ow ds') → ∃ ds2, δ[j]? = some (.ow ds2) := by
      intro j ds' e1
      by_cases z : i = j
      · subst z; exact ⟨ds, e⟩
      · rw [List.getElem?_set_ne z] at e1; exact ⟨ds', e1⟩
    obtain ⟨d1, e1⟩ := get e1
    obtain ⟨d2, e2⟩ := get e2
    exact h.sep j k d1 d2 x hjk e1 e2 q1 q2
theorem js_append {x : Str} {i : Nat} {ds : List D} {p1 p2 p3 : Pos} (hv : (x, i) ∈ S.vs) (hδ : δ[i]? = some (.ow ds)) (h : JE S Γ e δ fun d => ds.length < sizeLine ∧ K.nx (δ.set i (.ow (ds ++ [d]))))
    (hd : (x == ("__debug__" : Str)) = false := by decide) (hcd : (x == ("__classdict__" : Str)) = false := by decide)
    (hs : ∀ env, starEach [e] env = (false, eval e env) :: starEach [] env := by intro _; rfl) (hline : (p2.endLine == p3.line) = true := by rfl)
    (hfew : ∀ env, ((backTo p3 (starEach [e] env)).all (fun x => !x.1) && (backToKw p3 (keywordEach [] env)).all (fun x => x.1.isSome) && decide (([e] : List Expr).length + ([] : List Keyword).length + (if ([] : List Keyword).isEmpty then 0 else 1) < 30)) = true := by intro _; rfl)
    (hsw : ∀ env, swapsWith (.Call (.Attribute (.Name x p1) "append" p2) [e] [] p3) none pos.line env = pure false := by intro _; rfl) :
    JS S Γ (.Expr (.Call (.Attribute (.Name x p1) "append" p2) [e] [] p3) pos) δ K := by
  refine ⟨fun X hX σ G H De s ev en => ?_⟩
  obtain ⟨h1, h2⟩ := hX.so.vs _ hv
  refine PSw (ps_expr (pe_bm PySem.F.plainAttrs_list PySem.F.slot_list_append PySem.F.type_list_append mt_append (pe_var (by rw [hX.N]; exact h1) (by rw [hX.sc]; exact h2) hd hcd) (pa_cons wE_pe pa_nil (hs _)) (by rfl) (hfew _) hline (hs _) (by rfl)) (hsw _)) ?_
  obtain ⟨p, vs, ep, hp, g, h0, r⟩ := ev.at_ i _ hδ
  refine ⟨_, ep, .inl ⟨rfl, vs, .inl (.inl hp)⟩, ?_⟩
  refine h.run X hX σ G H s ev _ fun v G1 H1 d s1 r1 q => ?_
  have ev1 := ev.mono s1
  obtain ⟨p', vs', ep', hp', g', h0', r'⟩ := ev1.at_ i _ hδ
  rw [ep] at ep'
  cases ep'
  have hlen := r'.length
  refine ⟨p, vs', v, rfl, rfl, hp', by rw [hlen]; exact q.1, ?_⟩
  exact en.nx σ G1 _ _ ((s.trans s1).write (o := .lst vs') g' h0) (s1.mo.trans (.write hp')) (ev1.write hδ ep g' h0 hp' (r'.append (.one r1))) q.2
end

/-! ### a def keeps its contract -/
theorem EnvOk.start {KK : PySem.W.Frag} {G H H0 : Hp} {ds : List D} {vs : List V} (r : RepL KK G H ds vs) (N : List Str) (hN : ds.length ≤ N.length) : EnvOk KK G H H0 (L2.start N vs) (ds.map Sl.fz ++ List.replicate (N.length - ds.length) Sl.no) := by
  have hl := r.length
  refine ⟨by simp [L2.start, hl], fun i s e => ?_, fun i j d1 d2 p _ e1 _ _ => ?_⟩
  · by_cases hi : i < ds.length
    · rw [List.getElem?_append_left (by simpa using hi), List.getElem?_map] at e
      cases q : ds[i]? with
      | none => rw [q] at e; cases e
      | some d =>
        rw [q] at e
        cases e
        obtain ⟨v, hv, rv⟩ := r.get q
        refine ⟨v, ?_, rv⟩
        unfold L2.start
        rw [List.getElem?_append_left (by simp [hl, hi]), List.getElem?_map, hv]
        rfl
    · rw [List.getElem?_append_right (by simpa using Nat.le_of_not_lt hi)] at e
      have : s = .no := by
        have := List.mem_of_getElem? e
        exact List.eq_of_mem_replicate this
      subst this
      trivial
  · exfalso
    have := List.mem_of_getElem? e1
    rcases List.mem_append.mp this with z | z
    · obtain ⟨_, _, z⟩ := List.mem_map.mp z
      cases z
    · have := List.eq_of_mem_replicate z
      cases this
def startD (N : List Str) (ds : List D) : List Sl := ds.map Sl.fz ++ List.replicate (N.length - ds.length) Sl.no
/-- the surroundings that a def's body finds -/
def cgOf (P : Program) (w : World) (K : PySem.W.Frag) (mg : Str → Option Value) (base : Heap) (G H : Hp) (ex : List Sl → Value → List Str → List D → Prop) : Cg := ⟨P, w, K, mg, base, G, H, ex, false⟩
/-- what all defs of a module lean on -/
structure Env1 where
  P : Program
  w : World
  K : PySem.W.Frag
  mg : Str → Option Value
  base : Heap
abbrev Env1.cg (U : Env1) (G H : Hp) (ex : List Sl → Value → List Str → List D → Prop) : Cg := cgOf U.P U.w U.K U.mg U.base G H ex
abbrev Env1.Def (U : Env1) (x : Str) (lv : Nat) (df : List D) (c : Ct) : Prop := DefOk U.P U.w U.K U.mg U.base x lv df c
structure FunAt (U : Env1) (x : Str) (st : Stmt) (dvs : List V) : Prop where
  ex : ∃ f fd, FunD U.K x x (defArgs st) (defBody st) (defScope st) dvs [] f fd ∧ U.mg x = some (.ref f)
theorem def_ok {U : Env1} {x : Str} {st : Stmt} {S : Scp} {ps : List Str} {c : Ct} {n : Nat} {dvs : List V} {df : List D} {j : Nat} (F : FunAt U x st dvs) (so : S.Ok) (sc : S.sc = defScope st) (fs : FnScope S.N ps (defScope st)) (hn : ps.length = n) (hN : n ≤ S.N.length)
    (hb : ∀ f fd, FunD U.K x x (defArgs st) (defBody st) (defScope st) dvs [] f fd → ∃ ds, Vals (dvs.drop j) ds ∧ Binds U.K fd ps ds) (hdf : ∀ G H, RepL U.K G H df (dvs.drop j))
    (len : ∀ ds P E, c ds P E → ds.length = n)
    (mono : ∀ ds (P P' : D → Prop) (E E' : Value → List Str → List D → Prop), (∀ d, P d → P' d) → (∀ v ns es, E v ns es → E' v ns es) → c ds P E → c ds P' E')
    (body : ∀ (G H : Hp) ds P E, c ds P E → JSs S (U.cg G H fun _ => E) (defBody st) (startD S.N ds) { nx := fun _ => P .non, rt := P }) : U.Def x (S.lv + 1) df c := by
  refine ⟨mono, ?_⟩
  obtain ⟨f, fd, Fu, hm⟩ := F.ex
  obtain ⟨ds, hv, hbi⟩ := hb f fd Fu
  refine ⟨f, fd, ps, ds, dvs.drop j, ?_, hm, Fu.kp, hbi, hv, hdf⟩
  refine Fu.ok fs (fun vs H Q E h => ?_) (fun cdv A outer s H vs Q E hr h => ?_)
  · obtain ⟨G, ds, _, r, h⟩ := h
    rw [r.length, len _ _ _ h, hn]
  · obtain ⟨G, ds, e, r, h⟩ := h
    have hl := len _ _ _ h
    refine ⟨_, wSs_pss, ?_⟩
    refine (body G H ds _ _ h).run _ ⟨so, rfl, rfl, rfl, rfl, rfl, rfl, sc.symm, rfl, hr, fun _ _ => .inl rfl, fun _ => ⟨rfl, rfl, rfl, passes_of rfl⟩, ?_⟩ _ G H _ (.refl e) (EnvOk.start r _ (by omega)) ⟨?_, ?_, ?_, ?_⟩
    · refine Takes.imp (takes_of rfl rfl rfl rfl) ?_
      rintro cls d σ' H' ⟨G', δ', ns, es, s', ev', x', q⟩
      exact q d G' H' s' x'
    · exact fun σ' G' H' δ' s' _ _ q => q .non G' H' s' rep_non
    · exact fun _ _ _ _ _ _ _ q => q.elim
    · exact fun _ _ _ _ _ _ _ q => q.elim
    · exact fun v G' H' d s' r' q => q v G' H' s' r'
end Z
set_option Elab.async false
set_option linter.all false
set_option maxRecDepth 100000
set_option maxHeartbeats 4000000
/-! Z4: the rules in the form that the walk takes. -/
namespace Z
open PySem L2

inductive Has : List (Str × Nat) → Str → Nat → Prop
  | head {x : Str} {i : Nat} {l : List (Str × Nat)} : Has ((x, i) :: l) x i
  | tail {x : Str} {i : Nat} {p : Str × Nat} {l : List (Str × Nat)} : Has l x i → Has (p :: l) x i
theorem Has.mem {l : List (Str × Nat)} {x : Str} {i : Nat} (h : Has l x i) : (x, i) ∈ l := by
  induction h with
  | head => exact .head _
  | tail _ ih => exact .tail _ ih
inductive HasG : List Str → Str → Prop
  | head {x : Str} {l : List Str} : HasG (x :: l) x
  | tail {x y : Str} {l : List Str} : HasG l x → HasG (y :: l) x
theorem HasG.mem {l : List Str} {x : Str} (h : HasG l x) : x ∈ l := by
  induction h with
  | head => exact .head _
  | tail _ ih => exact .tail _ ih

section
variable {S : Scp} {Γ : Cg} {δ : List Sl} {P : D → Prop} {PB : Bool → Prop} {PL : List D → Prop} {N B C : List Sl → Prop} {R : D → Prop} {a b c e : Expr} {es rest : List Expr} {pos : Pos} {st : Stmt} {sts : List Stmt}
theorem zs_nil (h : N δ) : JSs S Γ [] δ ⟨N, R, B, C⟩ := jss_nil h
theorem zs_cons {st2 : Stmt} (h : JS S Γ st δ ⟨fun δ' => JSs S Γ (st2 :: sts) δ' ⟨N, R, B, C⟩, R, B, C⟩) : JSs S Γ (st :: st2 :: sts) δ ⟨N, R, B, C⟩ := jss_cons h
theorem zs_one (h : JS S Γ st δ ⟨N, R, B, C⟩) : JSs S Γ [st] δ ⟨N, R, B, C⟩ := jss_one h
theorem zs_pass (h : N δ) : JS S Γ (.Pass pos) δ ⟨N, R, B, C⟩ := js_pass h
theorem zs_break (h : B δ) : JS S Γ (.Break pos) δ ⟨N, R, B, C⟩ := js_break h
theorem zs_cont (h : C δ) : JS S Γ (.Continue pos) δ ⟨N, R, B, C⟩ := js_continue h
theorem zs_ret (h : JE S Γ e δ R) : JS S Γ (.Return (some e) pos) δ ⟨N, R, B, C⟩ := js_ret h
theorem zs_retN (h : R .non) : JS S Γ (.Return none pos) δ ⟨N, R, B, C⟩ := js_retN h
theorem zs_if {x y : List Stmt} (h : JT S Γ c δ fun t => if t = true then JSs S Γ x δ ⟨N, R, B, C⟩ else JSs S Γ y δ ⟨N, R, B, C⟩) : JS S Γ (.If c x y pos) δ ⟨N, R, B, C⟩ := js_if h
theorem zs_expr (h : JE S Γ e δ fun _ => N δ) (hs : ∀ env, swapsWith e none pos.line env = pure false := by intro _; rfl) : JS S Γ (.Expr e pos) δ ⟨N, R, B, C⟩ := js_expr h hs
theorem zs_set {x : Str} {i : Nat} {p : Pos} (hv : Has S.ss x i) (h : JE S Γ e δ fun d => N (δ.set i (.fz d))) (hs : ∀ env, swapsWith e (some (.Name x p)) pos.line env = pure false := by intro _; rfl) : JS S Γ (.Assign [.Name x p] e pos) δ ⟨N, R, B, C⟩ := js_set hv.mem h hs
theorem zs_setF {x : Str} {i : Nat} {p : Pos} (hv : Has S.ss x i) (h : JF S Γ e δ fun ds => N (δ.set i (.ow ds))) (hs : ∀ env, swapsWith e (some (.Name x p)) pos.line env = pure false := by intro _; rfl) : JS S Γ (.Assign [.Name x p] e pos) δ ⟨N, R, B, C⟩ := js_setF hv.mem h hs
theorem zs_asg {tg : Expr} (h : JE S Γ e δ fun d => JG S Γ tg d δ N) (hs : ∀ env, swapsWithSole [tg] e pos.line env = pure false := by intro _; rfl) (hw : ∀ env : Env, env.scope = S.sc → swappedStores [tg] e env = pure none := by intro env h; first | rfl | (cases env; cases h; rfl))
    (h1 : ∀ env, (assignEach [tg] env).map (·.2) = [assign tg env] := by intro _; rfl) : JS S Γ (.Assign [tg] e pos) δ ⟨N, R, B, C⟩ := js_asg h hs hw h1
theorem zg_name {x : Str} {i : Nat} {d : D} {Q : List Sl → Prop} (hv : Has S.ss x i) (h : Q (δ.set i (.fz d))) : JG S Γ (.Name x pos) d δ Q := jg_name hv.mem h
theorem zs_aug {x : Str} {i : Nat} {p : Pos} {op : Operator} {d : D} (hv : Has S.ss x i) (hδ : δ[i]? = some (.fz d)) (h : JE S Γ e δ fun y => OpD S Γ (inplaceOp op) d y fun z => N (δ.set i (.fz z))) : JS S Γ (.AugAssign (.Name x p) op e pos) δ ⟨N, R, B, C⟩ := js_aug hv.mem hδ h
theorem zs_append {x : Str} {i : Nat} {ds : List D} {p1 p2 p3 : Pos} (hv : Has S.vs x i) (hδ : δ[i]? = some (.ow ds)) (h : JE S Γ e δ fun d => ds.length < sizeLine ∧ N (δ.set i (.ow (ds ++ [d]))))
    (hd : (x == ("__debug__" : Str)) = false := by decide) (hcd : (x == ("__classdict__" : Str)) = false := by decide)
    (hs : ∀ env, starEach [e] env = (false, eval e env) :: starEach [] env := by intro _; rfl) (hline : (p2.endLine == p3.line) = true := by rfl)
    (hfew : ∀ env, ((backTo p3 (starEach [e] env)).all (fun x => !x.1) && (backToKw p3 (keywordEach [] env)).all (fun x => x.1.isSome) && decide (([e] : List Expr).length + ([] : List Keyword).length + (if ([] : List Keyword).isEmpty then 0 else 1) < 30)) = true := by intro _; rfl)
    (hsw : ∀ env, swapsWith (.Call (.Attribute (.Name x p1) "append" p2) [e] [] p3) none pos.line env = pure false := by intro _; rfl) :
    JS S Γ (.Expr (.Call (.Attribute (.Name x p1) "append" p2) [e] [] p3) pos) δ ⟨N, R, B, C⟩ := js_append hv.mem hδ h hd hcd hs hline hfew hsw
theorem ze_name {x : Str} {i : Nat} {d : D} (hv : Has S.vs x i) (hδ : δ[i]? = some (.fz d)) (h : P d) (hd : (x == ("__debug__" : Str)) = false := by decide) (hcd : (x == ("__classdict__" : Str)) = false := by decide) : JE S Γ (.Name x pos) δ P := je_name hv.mem hδ h hd hcd
theorem ze_callB {x : Str} {id : String} {p : Pos} (hg : HasG S.gl x) (hm : Γ.mg x = none) (hv : bootBuiltins x = some (.builtin id)) (h : JA S Γ (e :: es) δ fun ds => CallD S Γ (.builtin id) ds P)
    (hn : x ≠ "__name__" := by decide) (hdb : (x == ("__debug__" : Str)) = false := by decide) (he : ∀ env, starEach (e :: es) env = (false, eval e env) :: starEach es env := by intro _; rfl) (hpl : ∀ env, (backTo pos (starEach es env)).any (·.1) = false := by intro _; rfl) :
    JE S Γ (.Call (.Name x p) (e :: es) [] pos) δ P := je_callB hg.mem hm hv h hn hdb he hpl
theorem ze_call {x : Str} {lv : Nat} {df : List D} {ct : Ct} {p : Pos} (F : DefOk Γ.P Γ.w Γ.K Γ.mg Γ.base x lv df ct) (hl : lv ≤ S.lv) (hg : HasG S.gl x)
    (h : JA S Γ (e :: es) δ fun ds => ct (ds ++ df) P (Γ.ex δ))
    (hdb : (x == ("__debug__" : Str)) = false := by decide) (he : ∀ env, starEach (e :: es) env = (false, eval e env) :: starEach es env := by intro _; rfl) (hpl : ∀ env, (backTo pos (starEach es env)).any (·.1) = false := by intro _; rfl) :
    JE S Γ (.Call (.Name x p) (e :: es) [] pos) δ P := je_call F hl hg.mem h hdb he hpl
theorem isBl_mk {b : Bool} (h : PB b) : isBl PB (.bl b) := h
/-! tests whose answer is asked -/
theorem ite_d {c : Prop} [Decidable c] {A B : Prop} (h1 : c → A) (h2 : ¬ c → B) : if decide c = true then A else B := by
  by_cases h : c
  · rw [decide_eq_true h]; exact L2.iteT (h1 h)
  · rw [decide_eq_false h]; exact L2.iteF (h2 h)
theorem ite_nd {c : Prop} [Decidable c] {A B : Prop} (h1 : ¬ c → A) (h2 : c → B) : if (!decide c) = true then A else B := by
  by_cases h : c
  · rw [decide_eq_true h]; exact L2.iteF (h2 h)
  · rw [decide_eq_false h]; exact L2.iteT (h1 h)
theorem ite_T {b : Bool} {A B : Prop} (hb : b = true) (h : A) : if b = true then A else B := by rw [hb]; exact L2.iteT h
theorem ite_F {b : Bool} {A B : Prop} (hb : b = false) (h : B) : if b = true then A else B := by rw [hb]; exact L2.iteF h
theorem ite_dT {c : Prop} [Decidable c] {A B : Prop} (hc : c) (h : A) : if decide c = true then A else B := ite_T (decide_eq_true hc) h
theorem ite_dF {c : Prop} [Decidable c] {A B : Prop} (hc : ¬ c) (h : B) : if decide c = true then A else B := ite_F (decide_eq_false hc) h
theorem ite_ndT {c : Prop} [Decidable c] {A B : Prop} (hc : ¬ c) (h : A) : if (!decide c) = true then A else B := ite_T (by rw [decide_eq_false hc]; rfl) h
theorem ite_ndF {c : Prop} [Decidable c] {A B : Prop} (hc : c) (h : B) : if (!decide c) = true then A else B := ite_F (by rw [decide_eq_true hc]; rfl) h
/-! .. as the value of not -/
theorem pn_T {b : Bool} {Q : Bool → Prop} (hb : b = true) (h : Q false) : Q (!b) := by rw [hb]; exact h
theorem pn_F {b : Bool} {Q : Bool → Prop} (hb : b = false) (h : Q true) : Q (!b) := by rw [hb]; exact h
end
end Z
namespace Z
open PySem L2
section
variable {S : Scp} {Γ : Cg} {δ : List Sl} {N B C : List Sl → Prop} {R : D → Prop} {a b : Expr} {pos : Pos}
theorem zs_par {i j : Nat} {x y : Str} {px py pt : Pos} {kt k2 : Nat} {pt2 : Pos} (hi : Has S.ss x i) (hj : Has S.ss y j) (hij : i ≠ j) (hx : S.sc.names.lookup x = some .local) (hy : S.sc.names.lookup y = some .local)
    (h : JE S Γ a δ fun d => JE S Γ b δ fun d' => N ((δ.set i (.fz d)).set j (.fz d')))
    (hw : ∀ env : Env, env.scope = S.sc → swappedStores [.Tuple [.Name x px, .Name y py] kt pt] (.Tuple [a, b] k2 pt2) env = pure (some [x, y]))
    (hsa : ∀ env, starEach [a, b] env = (false, eval a env) :: starEach [b] env := by intro _; rfl) (hsb : ∀ env, starEach [b] env = (false, eval b env) :: starEach [] env := by intro _; rfl)
    (hs : ∀ env, swapsWithSole [.Tuple [.Name x px, .Name y py] kt pt] (.Tuple [a, b] k2 pt2) pos.line env = pure false := by intro _; rfl) :
    JS S Γ (.Assign [.Tuple [.Name x px, .Name y py] kt pt] (.Tuple [a, b] k2 pt2) pos) δ ⟨N, R, B, C⟩ := js_par hi.mem hj.mem hij hx hy h hw hsa hsb hs
end
end Z
set_option Elab.async false
set_option linter.all false
set_option maxRecDepth 100000
set_option maxHeartbeats 4000000
/-! Z5: the law's store (a dict of six keys) and the script. -/
namespace Z
open PySem L2
section
variable {S : Scp} {Γ : Cg} {δ : List Sl} {P : D → Prop} {PB : Bool → Prop} {PL : List D → Prop} {N B C : List Sl → Prop} {R : D → Prop} {a b c e o : Expr} {es rest : List Expr} {pos : Pos} {st : Stmt} {sts : List Stmt}
theorem ks12 : ¬ kS "cells" = kS "at" := by decide +kernel
theorem ks13 : ¬ kS "cells" = kS "rest" := by decide +kernel
theorem ks14 : ¬ kS "cells" = kS "left" := by decide +kernel
theorem ks15 : ¬ kS "cells" = kS "turn" := by decide +kernel
theorem ks16 : ¬ kS "cells" = kS "seed" := by decide +kernel
theorem ks23 : ¬ kS "at" = kS "rest" := by decide +kernel
theorem ks24 : ¬ kS "at" = kS "left" := by decide +kernel
theorem ks25 : ¬ kS "at" = kS "turn" := by decide +kernel
theorem ks26 : ¬ kS "at" = kS "seed" := by decide +kernel
theorem ks34 : ¬ kS "rest" = kS "left" := by decide +kernel
theorem ks35 : ¬ kS "rest" = kS "turn" := by decide +kernel
theorem ks36 : ¬ kS "rest" = kS "seed" := by decide +kernel
theorem ks45 : ¬ kS "left" = kS "turn" := by decide +kernel
theorem ks46 : ¬ kS "left" = kS "seed" := by decide +kernel
theorem ks56 : ¬ kS "turn" = kS "seed" := by decide +kernel
theorem st_ne {x y : Str} (h : ¬ kS x = kS y) : ¬ x = y := fun z => h (congrArg Sum.inr z)
theorem pos2560 : (0 : Int) < 2 ^ 2560 := by decide +kernel
section
variable {k : Addr} {x r l t s : Int}
theorem sv_cells : valV (stoKvs k x r l t s) (kS "cells") = some (.ref k) := valV_pos rfl
theorem sv_at : valV (stoKvs k x r l t s) (kS "at") = some (.int x) := by
  unfold stoKvs
  rw [valV_neg ks12, valV_pos rfl]
theorem sv_rest : valV (stoKvs k x r l t s) (kS "rest") = some (.int r) := by
  unfold stoKvs
  rw [valV_neg ks13, valV_neg ks23, valV_pos rfl]
theorem sv_left : valV (stoKvs k x r l t s) (kS "left") = some (.int l) := by
  unfold stoKvs
  rw [valV_neg ks14, valV_neg ks24, valV_neg ks34, valV_pos rfl]
theorem sv_turn : valV (stoKvs k x r l t s) (kS "turn") = some (.int t) := by
  unfold stoKvs
  rw [valV_neg ks15, valV_neg ks25, valV_neg ks35, valV_neg ks45, valV_pos rfl]
theorem sv_seed : valV (stoKvs k x r l t s) (kS "seed") = some (.int s) := by
  unfold stoKvs
  rw [valV_neg ks16, valV_neg ks26, valV_neg ks36, valV_neg ks46, valV_neg ks56, valV_pos rfl]
theorem sp_at {x' : Int} : putK (stoKvs k x r l t s) (kS "at") (.int x') = stoKvs k x' r l t s := by
  simp [putK, stoKvs, st_ne ks12, Ne.symm (st_ne ks12), st_ne ks23, Ne.symm (st_ne ks23), st_ne ks24, Ne.symm (st_ne ks24), st_ne ks25, Ne.symm (st_ne ks25), st_ne ks26, Ne.symm (st_ne ks26)]
theorem sp_rest {x' : Int} : putK (stoKvs k x r l t s) (kS "rest") (.int x') = stoKvs k x x' l t s := by
  simp [putK, stoKvs, st_ne ks13, Ne.symm (st_ne ks13), st_ne ks23, Ne.symm (st_ne ks23), st_ne ks34, Ne.symm (st_ne ks34), st_ne ks35, Ne.symm (st_ne ks35), st_ne ks36, Ne.symm (st_ne ks36)]
theorem sp_left {x' : Int} : putK (stoKvs k x r l t s) (kS "left") (.int x') = stoKvs k x r x' t s := by
  simp [putK, stoKvs, st_ne ks14, Ne.symm (st_ne ks14), st_ne ks24, Ne.symm (st_ne ks24), st_ne ks34, Ne.symm (st_ne ks34), st_ne ks45, Ne.symm (st_ne ks45), st_ne ks46, Ne.symm (st_ne ks46)]
theorem sp_turn {x' : Int} : putK (stoKvs k x r l t s) (kS "turn") (.int x') = stoKvs k x r l x' s := by
  simp [putK, stoKvs, st_ne ks15, Ne.symm (st_ne ks15), st_ne ks25, Ne.symm (st_ne ks25), st_ne ks35, Ne.symm (st_ne ks35), st_ne ks45, Ne.symm (st_ne ks45), st_ne ks56, Ne.symm (st_ne ks56)]
end
/-- what a key of the store tells -/
def StoGet (cells : List Int) (key : Str) (P : D → Prop) : Prop :=
  ∀ (K : PySem.W.Frag) (G : Hp) (k : Addr) (x r l t s : Int), G k = some (.lst (cells.map V.int)) → 0 ≤ x → x ≤ cells.length → 0 ≤ r → r < 2 ^ 2560 → (0 < l → cells ≠ []) → ∃ v d, valV (stoKvs k x r l t s) (kS key) = some v ∧ (∀ H, Rep K G H d v) ∧ P d
theorem je_stoGet {key : Str} {j : Nat} {p2 : Pos} (h : JE S Γ o δ fun d => ∃ cells, d = .sto cells ∧ StoGet cells key P) (hs : NoSl (.Constant (.str key) j p2) := by intro _ _; rfl) : JE S Γ (.Subscript o (.Constant (.str key) j p2) pos) δ P := by
  refine ⟨fun X hX σ G H st ev Q k => ?_⟩
  refine PEw (pe_dget (hu_of hX.room) wE_pe pe_str hs) ?_
  refine h.run X hX σ G H st ev _ fun v G1 H1 d s1 r1 h1 => ?_
  obtain ⟨cells, rfl, g⟩ := h1
  unfold Rep at r1
  obtain ⟨p, rfl, gp, kvs, hp, sa⟩ := r1
  obtain ⟨c, x, r, l, t, s, rfl, q1, q2, q3, q4, q5, q6, q7⟩ := sa.ex
  obtain ⟨v, d, e1, e2, e3⟩ := g Γ.K G1 c x r l t s q1 q3 q4 q5 q6 q7
  refine ⟨p, v, rfl, ?_, k v G1 H1 d s1 (e2 _) e3⟩
  have := DGet.k (k := kS key) hp
  rw [e1] at this
  exact this
theorem sg_rest {cells : List Int} (h : ∀ r : Int, 0 ≤ r → r < 2 ^ 2560 → P (.int r)) : StoGet cells "rest" P := fun K G k x r l t s _ _ _ h1 h2 _ => ⟨_, .int r, sv_rest, fun _ => rep_int, h r h1 h2⟩
theorem sg_left {cells : List Int} (h : ∀ r : Int, (0 < r → cells ≠ []) → P (.int r)) : StoGet cells "left" P := fun K G k x r l t s _ _ _ _ _ h1 => ⟨_, .int l, sv_left, fun _ => rep_int, h l h1⟩
theorem sg_at {cells : List Int} (h : ∀ r : Int, 0 ≤ r → r ≤ cells.length → P (.int r)) : StoGet cells "at" P := fun K G k x r l t s _ h1 h2 _ _ _ => ⟨_, .int x, sv_at, fun _ => rep_int, h x h1 h2⟩
theorem sg_turn {cells : List Int} (h : ∀ r : Int, P (.int r)) : StoGet cells "turn" P := fun K G k x r l t s _ _ _ _ _ _ => ⟨_, .int t, sv_turn, fun _ => rep_int, h t⟩
theorem sg_seed {cells : List Int} (h : ∀ r : Int, P (.int r)) : StoGet cells "seed" P := fun K G k x r l t s _ _ _ _ _ _ => ⟨_, .int s, sv_seed, fun _ => rep_int, h s⟩
theorem sg_cells {cells : List Int} (h : P (.lst (cells.map D.int))) : StoGet cells "cells" P := fun K G k x r l t s h0 _ _ _ _ _ => ⟨_, .lst (cells.map D.int), sv_cells, fun H => by unfold Rep; exact ⟨k, _, rfl, h0, .ofInts⟩, h⟩
/-- what may be put there -/
def StoPut (cells : List Int) (key : Str) (d : D) : Prop :=
  ∃ y : Int, d = .int y ∧ ∀ (k : Addr) (x r l t s : Int), 0 ≤ x → x ≤ cells.length → 0 ≤ r → r < 2 ^ 2560 → (0 < l → cells ≠ []) →
    ∃ x' r' l' t' s', putK (stoKvs k x r l t s) (kS key) (.int y) = stoKvs k x' r' l' t' s' ∧ 0 ≤ x' ∧ x' ≤ cells.length ∧ 0 ≤ r' ∧ r' < 2 ^ 2560 ∧ (0 < l' → cells ≠ [])
theorem spp_rest {cells : List Int} {y : Int} (h1 : 0 ≤ y) (h2 : y < 2 ^ 2560) : StoPut cells "rest" (.int y) := ⟨y, rfl, fun k x r l t s a1 a2 _ _ a5 => ⟨x, y, l, t, s, sp_rest, a1, a2, h1, h2, a5⟩⟩
theorem spp_left {cells : List Int} {y : Int} (h1 : 0 < y → cells ≠ []) : StoPut cells "left" (.int y) := ⟨y, rfl, fun k x r l t s a1 a2 a3 a4 _ => ⟨x, r, y, t, s, sp_left, a1, a2, a3, a4, h1⟩⟩
theorem spp_at {cells : List Int} {y : Int} (h1 : 0 ≤ y) (h2 : y ≤ cells.length) : StoPut cells "at" (.int y) := ⟨y, rfl, fun k x r l t s _ _ a3 a4 a5 => ⟨y, r, l, t, s, sp_at, h1, h2, a3, a4, a5⟩⟩
theorem spp_turn {cells : List Int} {y : Int} : StoPut cells "turn" (.int y) := ⟨y, rfl, fun k x r l t s a1 a2 a3 a4 a5 => ⟨x, r, l, y, s, sp_turn, a1, a2, a3, a4, a5⟩⟩
theorem ints_inj : ∀ {xs ys : List Int}, xs.map V.int = ys.map V.int → xs = ys
  | [], [], _ => rfl
  | [], _ :: _, h => by simp at h
  | _ :: _, [], h => by simp at h
  | x :: xs, y :: ys, h => by
    simp only [List.map_cons, List.cons.injEq, V.int.injEq] at h
    rw [h.1, ints_inj h.2]
theorem zs_stoPut {value : Expr} {key : Str} {j : Nat} {p2 pos' : Pos} (h : JE S Γ value δ fun d => JE S Γ o δ fun d' => ∃ cells, d' = .sto cells ∧ StoPut cells key d ∧ N δ)
    (hs : ∀ env, swapsWith value (some (.Subscript o (.Constant (.str key) j p2) pos')) pos.line env = pure false := by intro _; rfl) :
    JS S Γ (.Assign [.Subscript o (.Constant (.str key) j p2) pos'] value pos) δ ⟨N, R, B, C⟩ := by
  refine ⟨fun X hX σ G H De s ev en => ?_⟩
  refine PSw (ps_dput (hu_of hX.room) wE_pe pe_str wE_pe (hs _)) ?_
  refine h.run X hX σ G H s ev _ fun v G1 H1 d s1 r1 h1 => ?_
  refine h1.run X hX σ G1 H1 (s.trans s1) (ev.mono s1) _ fun v2 G2 H2 d2 s2 r2 h2 => ?_
  obtain ⟨cells, rfl, ⟨y, rfl, put⟩, hn⟩ := h2
  unfold Rep at r1 r2
  subst r1
  obtain ⟨p, rfl, gp, kvs, hp, sa⟩ := r2
  obtain ⟨c, x, r, l, t, sd, rfl, q1, q2, q3, q4, q5, q6, q7⟩ := sa.ex
  obtain ⟨x', r', l', t', s', e, w1, w2, w3, w4, w5⟩ := put c x r l t sd q3 q4 q5 q6 q7
  refine ⟨p, _, rfl, DPut.k (k := kS key) hp (by show 6 < sizeLine; decide), ?_⟩
  rw [e]
  have okAt : ∀ cells', StoreOk Γ.K G2 H2 cells' p → StoreOk Γ.K G2 (upd H2 p (.dK (stoKvs c x' r' l' t' s'))) cells' p := by
    rintro cells' ⟨kv, z1, z2⟩
    rw [hp] at z1
    cases z1
    obtain ⟨c2, x2, r2, l2, t2, s2, e2, y1, y2, y3⟩ := z2.ex
    have ec : c2 = c := by
      have := congrArg (fun l => valV l (kS "cells")) e2
      simp only [sv_cells] at this
      cases this
      rfl
    subst ec
    rw [q1] at y1
    have := ints_inj (HO.lst.inj (Option.some.inj y1))
    subst this
    exact ⟨_, upd_same, ⟨c2, x', r', l', t', s', rfl, q1, q2, w1, w2, w3, w4, w5⟩⟩
  have s3 : Stp Γ.K G2 H2 G2 (upd H2 p (.dK (stoKvs c x' r' l' t' s'))) := by
    refine ⟨Same.refl _, fun b u z => ?_, fun b u z n => ⟨n, ?_⟩⟩
    · rw [upd_ne (ne_of_none z gp)]
      exact ((s.trans s1).trans s2).sub b u z
    · by_cases zb : b = p
      · subst zb
        rw [hp] at z
        cases z
        exact .inr ⟨rfl, _, upd_same, ⟨rfl, rfl⟩, okAt⟩
      · exact .inl (by rw [upd_ne zb]; exact z)
  exact en.nx σ G2 _ δ (((s.trans s1).trans s2).trans s3) ((s1.trans s2).trans s3).mo ((ev.mono s1).mono (s2.trans s3)) hn
theorem ks_new {c : Addr} {s : Int} : mergeK [] (stoKvs c 0 0 0 0 s) = stoKvs c 0 0 0 0 s := by
  have e : ∀ (kvs : List (Key × V)) (k : Key) (v : V), valV kvs k = none → putK kvs k v = kvs ++ [(k, v)] := fun kvs k v h => putK_new v h
  show putK (putK (putK (putK (putK (putK [] (kS "cells") (.ref c)) (kS "at") (.int 0)) (kS "rest") (.int 0)) (kS "left") (.int 0)) (kS "turn") (.int 0)) (kS "seed") (.int s) = _
  rw [e [] _ _ valV_nil, e _ (kS "at") _ (by rw [List.nil_append, valV_neg ks12, valV_nil])]
  rw [e _ (kS "rest") _ (by simp only [List.nil_append, List.cons_append]; rw [valV_neg ks13, valV_neg ks23, valV_nil])]
  rw [e _ (kS "left") _ (by simp only [List.nil_append, List.cons_append]; rw [valV_neg ks14, valV_neg ks24, valV_neg ks34, valV_nil])]
  rw [e _ (kS "turn") _ (by simp only [List.nil_append, List.cons_append]; rw [valV_neg ks15, valV_neg ks25, valV_neg ks35, valV_neg ks45, valV_nil])]
  rw [e _ (kS "seed") _ (by simp only [List.nil_append, List.cons_append]; rw [valV_neg ks16, valV_neg ks26, valV_neg ks36, valV_neg ks46, valV_neg ks56, valV_nil])]
  rfl
/-- {'cells': .., 'at': 0, 'rest': 0, 'left': 0, 'turn': 0, 'seed': ..} -/
theorem je_stoNew {v1 v6 : Expr} {j1 j2 j3 j4 j5 j6 i2 i3 i4 i5 : Nat} {p1 p2 p3 p4 p5 p6 q2 q3 q4 q5 : Pos}
    (h : JE S Γ v1 δ fun d1 => ∃ cells : List Int, d1 = .lst (cells.map D.int) ∧ cells.length ≤ 63 ∧ JE S Γ v6 δ fun d6 => ∃ s : Int, d6 = .int s ∧ P (.sto cells)) :
    JE S Γ (.Dict [some (.Constant (.str "cells") j1 p1), some (.Constant (.str "at") j2 p2), some (.Constant (.str "rest") j3 p3), some (.Constant (.str "left") j4 p4), some (.Constant (.str "turn") j5 p5), some (.Constant (.str "seed") j6 p6)]
      [v1, .Constant (.int 0) i2 q2, .Constant (.int 0) i3 q3, .Constant (.int 0) i4 q4, .Constant (.int 0) i5 q5, v6] pos) δ P := by
  refine ⟨fun X hX σ G H st ev Q k => ?_⟩
  refine PEw (pe_disp (pps_cons pe_str wE_pe (pps_cons pe_str pe_int (pps_cons pe_str pe_int (pps_cons pe_str pe_int (pps_cons pe_str pe_int (pps_cons pe_str wE_pe pps_nil)))))) rfl rfl (by intro z; cases z) (by show 6 ≤ 15; decide)) ?_
  intro p hp
  have s0 : Stp Γ.K G H G (upd H p (.dK [])) := .newM st.sub hp
  have gp := st.sub.free hp
  refine h.run X hX σ G _ (st.trans s0) (ev.mono s0) _ fun u1 G1 H1 d1 s1 r1 h1 => ?_
  obtain ⟨cells, rfl, hl, h1⟩ := h1
  have o1 := s1.own p _ upd_same gp
  have hp1 : H1 p = some (.dK []) := o1.2.elim id fun z => by cases z.1
  refine h1.run X hX σ G1 H1 ((st.trans s0).trans s1) ((ev.mono s0).mono s1) _ fun u6 G2 H2 d6 s2 r6 h2 => ?_
  obtain ⟨s, rfl, h2⟩ := h2
  have o2 := s2.own p _ hp1 o1.1
  have hp2 : H2 p = some (.dK []) := o2.2.elim id fun z => by cases z.1
  have r1' := r1.mono s2
  unfold Rep at r1' r6
  obtain ⟨c, vs, rfl, hc, rl⟩ := r1'
  have := rl.ints
  subst this
  subst r6
  refine ⟨hp2, stoKvs c 0 0 0 0 s, rfl, by show 6 ≤ 15; decide, ?_⟩
  rw [ks_new]
  have s3 : Stp Γ.K G H G2 (upd H2 p (.dK (stoKvs c 0 0 0 0 s))) := ((s0.trans s1).trans s2).write (o := .dK []) o2.1 hp
  refine k _ G2 _ (.sto cells) s3 ?_ h2
  unfold Rep
  exact ⟨p, rfl, o2.1, _, upd_same, ⟨c, 0, 0, 0, 0, s, rfl, hc, hl, by decide, by omega, by decide, pos2560, fun z => absurd z (by decide)⟩⟩

/-! ### the script -/
theorem cd_lenScr {ns : List Int} (h : P (.int ns.length)) : CallD S Γ (.builtin "len") [.scr ns] P := by
  refine ⟨fun X hX vs G H st r Q k => ?_⟩
  obtain ⟨v, rfl, r1⟩ := repL1 r
  unfold Rep at r1
  obtain ⟨p, rfl, h1⟩ := r1
  refine CallRw call_len_seq ⟨p, ns.map V.int, rfl, .inl (by rw [hX.K]; exact Same.seq st.sub h1), ?_⟩
  rw [List.length_map]
  exact k _ G H _ (.refl st.sub) rep_int h
theorem cf_listScr {ns : List Int} (h : PL (ns.map D.int)) : CallF S Γ (.type "list") [.scr ns] PL := by
  refine ⟨fun X hX vs G H st r Q k => ?_⟩
  obtain ⟨v, rfl, r1⟩ := repL1 r
  unfold Rep at r1
  obtain ⟨p, rfl, h1⟩ := r1
  refine CallRw call_list_of ⟨p, ns.map V.int, rfl, .inl (by rw [hX.K]; exact Same.seq st.sub h1), fun l hl => ?_⟩
  have s2 : Stp Γ.K G H G (upd H l (.lst (ns.map V.int))) := .newM st.sub hl
  exact k l _ G _ _ s2 hl (st.sub.free hl) upd_same .ofInts h
theorem ji_scr {tg : Expr} {PI' : Nat → (Nat → D) → Prop} (h : JE S Γ e δ fun d => ∃ ns, d = .scr ns ∧ PI' ns.length (fun i => .int ((ns[i]?).getD 0))) : JI S Γ tg e δ PI' := by
  refine ⟨fun X hX σ G H s ev R k => ?_⟩
  refine PIw (pi_list wE_pe) ?_
  refine h.run X hX σ G H s ev _ fun v G1 H1 d s1 r q => ?_
  obtain ⟨ns, rfl, q⟩ := q
  unfold Rep at r
  obtain ⟨p, rfl, h1⟩ := r
  have at_ : ∀ G' H', Same G' H' → Mo Γ.K G1 H1 G' H' → SqL X.K H' p (ns.map V.int) := fun G' H' e m => by rw [hX.K]; exact Same.seq e (Same.seq m.exG h1)
  refine ⟨p, rfl, ⟨_, at_ _ _ s1.sub .refl⟩, k _ G1 H1 _ _ s1 ⟨?_, ?_, ?_⟩ q⟩
  · intro i G' H' e m hi
    have hlt : i < (ns.map V.int).length := by rw [List.length_map]; exact hi
    exact ⟨_, _, at_ _ _ e m, List.getElem?_eq_getElem hlt⟩
  · rintro i G' H' x H2 e m hi ⟨rfl, y⟩
    have hx := y _ (at_ _ _ e m)
    rw [List.getElem?_map, List.getElem?_eq_getElem hi] at hx
    cases hx
    refine ⟨G', .refl e, ?_⟩
    rw [List.getElem?_eq_getElem hi]
    exact rep_int
  · intro G' H' e m
    exact ⟨_, at_ _ _ e m, by rw [List.length_map]; exact Nat.le_refl _⟩
end
end Z
set_option Elab.async false
set_option linter.all false
set_option maxRecDepth 100000
set_option maxHeartbeats 4000000
/-! Z6: built-ins by name; sizes; loops in the walk's form. -/
namespace Z
open PySem L2
structure Blt (U : Env1) (bs : List Str) : Prop where
  h : ∀ x, HasG bs x → U.mg x = none
section
variable {S : Scp} {Γ : Cg} {δ : List Sl} {P : D → Prop} {PB : Bool → Prop} {PL : List D → Prop} {N B C : List Sl → Prop} {R : D → Prop} {a b c e o : Expr} {es rest : List Expr} {pos p : Pos} {st : Stmt} {sts : List Stmt}
theorem cb_len : bootBuiltins "len" = some (.builtin "len") := by decide +kernel
theorem cb_abs : bootBuiltins "abs" = some (.builtin "abs") := by decide +kernel
theorem cb_isinstance : bootBuiltins "isinstance" = some (.builtin "isinstance") := by decide +kernel
theorem cb_max : bootBuiltins "max" = some (.builtin "max") := by decide +kernel
theorem cb_min : bootBuiltins "min" = some (.builtin "min") := by decide +kernel
theorem cb_sum : bootBuiltins "sum" = some (.builtin "sum") := by decide +kernel
theorem cb_sorted : bootBuiltins "sorted" = some (.builtin "sorted") := by decide +kernel
theorem cb_int : bootBuiltins "int" = some (.type "int") := by decide +kernel
theorem cb_bool : bootBuiltins "bool" = some (.type "bool") := by decide +kernel
theorem cb_str : bootBuiltins "str" = some (.type "str") := by decide +kernel
theorem cb_tuple : bootBuiltins "tuple" = some (.type "tuple") := by decide +kernel
theorem cb_list : bootBuiltins "list" = some (.type "list") := by decide +kernel
theorem cb_dict : bootBuiltins "dict" = some (.type "dict") := by decide +kernel
theorem zb_len (hg : HasG S.gl "len") (hm : Γ.mg "len" = none) (h : JA S Γ (e :: es) δ fun ds => CallD S Γ (.builtin "len") ds P) (he : ∀ env, starEach (e :: es) env = (false, eval e env) :: starEach es env := by intro _; rfl) (hpl : ∀ env, (backTo pos (starEach es env)).any (·.1) = false := by intro _; rfl) :
    JE S Γ (.Call (.Name "len" p) (e :: es) [] pos) δ P := je_callB hg.mem hm cb_len h (by decide) (by decide) he hpl
theorem zb_abs (hg : HasG S.gl "abs") (hm : Γ.mg "abs" = none) (h : JA S Γ (e :: es) δ fun ds => CallD S Γ (.builtin "abs") ds P) (he : ∀ env, starEach (e :: es) env = (false, eval e env) :: starEach es env := by intro _; rfl) (hpl : ∀ env, (backTo pos (starEach es env)).any (·.1) = false := by intro _; rfl) :
    JE S Γ (.Call (.Name "abs" p) (e :: es) [] pos) δ P := je_callB hg.mem hm cb_abs h (by decide) (by decide) he hpl
theorem zb_max (hg : HasG S.gl "max") (hm : Γ.mg "max" = none) (h : JA S Γ (e :: es) δ fun ds => CallD S Γ (.builtin "max") ds P) (he : ∀ env, starEach (e :: es) env = (false, eval e env) :: starEach es env := by intro _; rfl) (hpl : ∀ env, (backTo pos (starEach es env)).any (·.1) = false := by intro _; rfl) :
    JE S Γ (.Call (.Name "max" p) (e :: es) [] pos) δ P := je_callB hg.mem hm cb_max h (by decide) (by decide) he hpl
theorem zb_min (hg : HasG S.gl "min") (hm : Γ.mg "min" = none) (h : JA S Γ (e :: es) δ fun ds => CallD S Γ (.builtin "min") ds P) (he : ∀ env, starEach (e :: es) env = (false, eval e env) :: starEach es env := by intro _; rfl) (hpl : ∀ env, (backTo pos (starEach es env)).any (·.1) = false := by intro _; rfl) :
    JE S Γ (.Call (.Name "min" p) (e :: es) [] pos) δ P := je_callB hg.mem hm cb_min h (by decide) (by decide) he hpl
theorem zb_isi (hg : HasG S.gl "isinstance") (hm : Γ.mg "isinstance" = none) (h : JA S Γ (e :: es) δ fun ds => CallD S Γ (.builtin "isinstance") ds P) (he : ∀ env, starEach (e :: es) env = (false, eval e env) :: starEach es env := by intro _; rfl) (hpl : ∀ env, (backTo pos (starEach es env)).any (·.1) = false := by intro _; rfl) :
    JE S Γ (.Call (.Name "isinstance" p) (e :: es) [] pos) δ P := je_callB hg.mem hm cb_isinstance h (by decide) (by decide) he hpl
theorem zb_int (hg : HasG S.gl "int") (hm : Γ.mg "int" = none) (h : JA S Γ (e :: es) δ fun ds => CallD S Γ (.type "int") ds P) (he : ∀ env, starEach (e :: es) env = (false, eval e env) :: starEach es env := by intro _; rfl) (hpl : ∀ env, (backTo pos (starEach es env)).any (·.1) = false := by intro _; rfl) :
    JE S Γ (.Call (.Name "int" p) (e :: es) [] pos) δ P := je_callTy hg.mem hm cb_int h (by decide) (by decide) he hpl
theorem zf_list (hg : HasG S.gl "list") (hm : Γ.mg "list" = none) (h : JA S Γ (e :: es) δ fun ds => CallF S Γ (.type "list") ds PL) (he : ∀ env, starEach (e :: es) env = (false, eval e env) :: starEach es env := by intro _; rfl) (hpl : ∀ env, (backTo pos (starEach es env)).any (·.1) = false := by intro _; rfl) :
    JF S Γ (.Call (.Name "list" p) (e :: es) [] pos) δ PL := jf_callTy hg.mem hm cb_list h (by decide) (by decide) he hpl
theorem zb_list (hg : HasG S.gl "list") (hm : Γ.mg "list" = none) (h : JA S Γ (e :: es) δ fun ds => CallF S Γ (.type "list") ds fun ds => P (.lst ds)) (he : ∀ env, starEach (e :: es) env = (false, eval e env) :: starEach es env := by intro _; rfl) (hpl : ∀ env, (backTo pos (starEach es env)).any (·.1) = false := by intro _; rfl) :
    JE S Γ (.Call (.Name "list" p) (e :: es) [] pos) δ P := jf_je (zf_list hg hm h he hpl)
theorem zt_int (hg : HasG S.gl "int") (hm : Γ.mg "int" = none) (h : P (.ty "int")) : JE S Γ (.Name "int" pos) δ P := je_globT hg.mem hm cb_int h (by decide) (by decide)
theorem zt_bool (hg : HasG S.gl "bool") (hm : Γ.mg "bool" = none) (h : P (.ty "bool")) : JE S Γ (.Name "bool" pos) δ P := je_globT hg.mem hm cb_bool h (by decide) (by decide)
theorem zt_str (hg : HasG S.gl "str") (hm : Γ.mg "str" = none) (h : P (.ty "str")) : JE S Γ (.Name "str" pos) δ P := je_globT hg.mem hm cb_str h (by decide) (by decide)
theorem zt_tuple (hg : HasG S.gl "tuple") (hm : Γ.mg "tuple" = none) (h : P (.ty "tuple")) : JE S Γ (.Name "tuple" pos) δ P := je_globT hg.mem hm cb_tuple h (by decide) (by decide)
theorem zt_list (hg : HasG S.gl "list") (hm : Γ.mg "list" = none) (h : P (.ty "list")) : JE S Γ (.Name "list" pos) δ P := je_globT hg.mem hm cb_list h (by decide) (by decide)
theorem zt_dict (hg : HasG S.gl "dict") (hm : Γ.mg "dict" = none) (h : P (.ty "dict")) : JE S Γ (.Name "dict" pos) δ P := je_globT hg.mem hm cb_dict h (by decide) (by decide)
def isBool : D → Bool | .bl _ => true | _ => false
def isInt : D → Bool | .bl _ => true | .int _ => true | _ => false
def isStr : D → Bool | .str _ => true | _ => false
def isTup : D → Bool | .tup _ => true | _ => false
def isLst : D → Bool | .lst _ => true | _ => false
def isDict : D → Bool | .sto _ => true | _ => false
theorem ci_bool {d : D} (hp : plainD d = true) (h : P (.bl (isBool d))) : CallD S Γ (.builtin "isinstance") [d, .ty "bool"] P := by
  refine cd_isi hp (by simp) ?_
  have e : isTy d "bool" = isBool d := by cases d <;> first | rfl | cases hp | decide +kernel
  rw [e]; exact h
theorem ci_int {d : D} (hp : plainD d = true) (h : P (.bl (isInt d))) : CallD S Γ (.builtin "isinstance") [d, .ty "int"] P := by
  refine cd_isi hp (by simp) ?_
  have e : isTy d "int" = isInt d := by cases d <;> first | rfl | cases hp | decide +kernel
  rw [e]; exact h
theorem ci_str {d : D} (hp : plainD d = true) (h : P (.bl (isStr d))) : CallD S Γ (.builtin "isinstance") [d, .ty "str"] P := by
  refine cd_isi hp (by simp) ?_
  have e : isTy d "str" = isStr d := by cases d <;> first | rfl | cases hp | decide +kernel
  rw [e]; exact h
theorem ci_tup {d : D} (hp : plainD d = true) (h : P (.bl (isTup d))) : CallD S Γ (.builtin "isinstance") [d, .ty "tuple"] P := by
  refine cd_isi hp (by simp) ?_
  have e : isTy d "tuple" = isTup d := by cases d <;> first | rfl | cases hp | decide +kernel
  rw [e]; exact h
theorem ci_lst {d : D} (hp : plainD d = true) (h : P (.bl (isLst d))) : CallD S Γ (.builtin "isinstance") [d, .ty "list"] P := by
  refine cd_isi hp (by simp) ?_
  have e : isTy d "list" = isLst d := by cases d <;> first | rfl | cases hp | decide +kernel
  rw [e]; exact h
theorem ci_dict {d : D} (hp : plainD d = true) (h : P (.bl (isDict d))) : CallD S Γ (.builtin "isinstance") [d, .ty "dict"] P := by
  refine cd_isi hp (by simp) ?_
  have e : isTy d "dict" = isDict d := by cases d <;> first | rfl | cases hp | decide +kernel
  rw [e]; exact h

/-! ### loops in the walk's form -/
theorem zs_for {tg : Expr} {body : List Stmt} (hb : Γ.blk = false) (h : JI S Γ tg e δ fun n f => ∃ I : Nat → List Sl → Prop, I 0 δ ∧ (∀ i, i < n → Turns S Γ tg body ⟨N, R, B, C⟩ I i (f i)) ∧ ∀ δ', I n δ' → N δ')
    (hs : ∀ env x, foldedSetIterable e env x = pure x := by intros; rfl) : JS S Γ (.For tg e body [] pos) δ ⟨N, R, B, C⟩ := js_for hb h hs
/-- one turn -/
theorem turns_of {tg : Expr} {body : List Stmt} {I : Nat → List Sl → Prop} {i : Nat} {x : D} (h : ∀ δ', I i δ' → JG S Γ tg x δ' fun δ2 => JSs S Γ body δ2 ⟨I (i + 1), R, N, I (i + 1)⟩) : Turns S Γ tg body ⟨N, R, B, C⟩ I i x := h
theorem zs_while {body : List Stmt} (hb : Γ.blk = false) (I : Nat → List Sl → Prop) (m0 : Nat) (h0 : I m0 δ)
    (turn : ∀ m δ', I m δ' → JT S Γ c δ' fun t => if t = true then JSs S Γ body δ' ⟨fun δ2 => ∃ m', m' < m ∧ I m' δ2, R, N, fun δ2 => ∃ m', m' < m ∧ I m' δ2⟩ else N δ') : JS S Γ (.While c body [] pos) δ ⟨N, R, B, C⟩ := js_while hb I m0 h0 turn
theorem zi_rng1 {tg : Expr} {PI' : Nat → (Nat → D) → Prop} {p1 p2 : Pos} (hg : HasG S.gl "range") (hm : Γ.mg "range" = none) (hs : ∀ env, starEach [a] env = [(false, eval a env)])
    (h : JE S Γ a δ fun d => ∃ n, d = .int n ∧ -(2 ^ 62) ≤ n ∧ n < 2 ^ 62 ∧ PI' n.toNat (fun i => .int (0 + i))) : JI S Γ tg (.Call (.Name "range" p1) [a] [] p2) δ PI' := ji_rng1 hg.mem hm hs h
theorem zi_rng2 {tg : Expr} {PI' : Nat → (Nat → D) → Prop} {p1 p2 : Pos} (hg : HasG S.gl "range") (hm : Γ.mg "range" = none) (hs : ∀ env, starEach [a, b] env = [(false, eval a env), (false, eval b env)]) (hs2 : ∀ env, starEach [b] env = [(false, eval b env)])
    (h : JE S Γ a δ fun d => JE S Γ b δ fun d' => ∃ m n, d = .int m ∧ d' = .int n ∧ (-(2 ^ 62) ≤ m ∧ m < 2 ^ 62 ∧ -(2 ^ 62) ≤ n ∧ n < 2 ^ 62) ∧ PI' (n - m).toNat (fun i => .int (m + i))) : JI S Γ tg (.Call (.Name "range" p1) [a, b] [] p2) δ PI' := ji_rng2 hg.mem hm hs hs2 h
/-- a list that is read while it is one's own: the value of e has no list in it -/
def noL : D → Bool
  | .lst _ => false | .obj _ _ _ => false | .tup _ => false | .scr _ => true | _ => true
/-! ### sizes of ints -/
def Bd (n : Nat) (i : Int) : Prop := i.natAbs < 2 ^ n
theorem Bd.mono {n m : Nat} {i : Int} (h : Bd n i) (e : n ≤ m) : Bd m i := Nat.lt_of_lt_of_le h (Nat.pow_le_pow_right (by decide) e)
theorem Bd.mul {n m : Nat} {i j : Int} (h : Bd n i) (h' : Bd m j) : Bd (n + m) (i * j) := by
  unfold Bd at *
  rw [Int.natAbs_mul, Nat.pow_add]
  exact Nat.mul_lt_mul'' h h'
theorem Bd.add {n m : Nat} {i j : Int} (h : Bd n i) (h' : Bd m j) : Bd (max n m + 1) (i + j) := by
  have h1 := h.mono (Nat.le_max_left n m)
  have h2 := h'.mono (Nat.le_max_right n m)
  unfold Bd at *
  have := Int.natAbs_add_le i j
  rw [Nat.pow_succ]
  omega
theorem Bd.neg {n : Nat} {i : Int} (h : Bd n i) : Bd n (-i) := by
  unfold Bd at *
  rw [Int.natAbs_neg]
  exact h
theorem Bd.sub {n m : Nat} {i j : Int} (h : Bd n i) (h' : Bd m j) : Bd (max n m + 1) (i - j) := by
  have := h.add h'.neg
  rwa [← Int.sub_eq_add_neg] at this
theorem Bd.ok {n m : Nat} {i j : Int} (h : Bd n i) (h' : Bd m j) (e : n + m ≤ 1000000) : IntMulOk i j := by
  have h1 := h.mono (Nat.le_succ n)
  have h2 := h'.mono (Nat.le_succ m)
  by_cases z : n + 1 + (m + 1) ≤ 1000000
  · exact (wide_mul h1 h2 (by omega) (by omega) z).ok
  · have x : ∀ {k : Nat} {i : Int}, Bd k i → 0 < k → i.natAbs.log2 < k := fun hh h0 => PySem.Flt.log2_lt_of h0 hh
    by_cases n0 : n = 0
    · subst n0
      have : i = 0 := by unfold Bd at h; simp at h; exact h
      subst this
      exact CMul.ok (.inl (by decide))
    · by_cases m0 : m = 0
      · subst m0
        have : j = 0 := by unfold Bd at h'; simp at h'; exact h'
        subst this
        exact CMul.ok (.inr (by decide))
      · exact (wide_mul h h' (by omega) (by omega) e).ok
theorem mulok_l {i j : Int} (h : -(2 ^ 64) < i ∧ i < 2 ^ 64) : IntMulOk i j := CMul.ok (.inl h)
theorem mulok_r {i j : Int} (h : -(2 ^ 64) < j ∧ j < 2 ^ 64) : IntMulOk i j := CMul.ok (.inr h)
/-- no division by Python's own slow road -/
theorem nopy_i {i j : Int} {n : Nat} (h : Bd n i) (e : n ≤ 13500) : Builtin.divisionGoesByPylong i j = false := by
  have h1 : i.natAbs.log2 < 13500 := PySem.Flt.log2_lt_of (by decide) (h.mono e)
  by_cases hj : (if j == 0 then 0 else j.natAbs.log2 / 30 + 1) ≤ 300
  · show (decide ((if j == 0 then 0 else j.natAbs.log2 / 30 + 1) > 300) && _) = false
    rw [decide_eq_false (Nat.not_lt.mpr hj)]
    rfl
  · show (decide ((if j == 0 then 0 else j.natAbs.log2 / 30 + 1) > 300) && decide ((if i == 0 then 0 else i.natAbs.log2 / 30 + 1) > (if j == 0 then 0 else j.natAbs.log2 / 30 + 1) + 150)) = false
    rw [Bool.and_eq_false_iff]
    right
    apply decide_eq_false
    have : (if i == 0 then 0 else i.natAbs.log2 / 30 + 1) ≤ 450 := by
      split <;> omega
    omega
theorem nopy_j {i j : Int} {n : Nat} (h : Bd n j) (e : n ≤ 9000) : Builtin.divisionGoesByPylong i j = false := PyProof.noPylong_of_log2 (PySem.Flt.log2_lt_of (by decide) (h.mono e))
theorem bd_of {n : Nat} {i : Int} (h : i.natAbs < 2 ^ n) : Bd n i := h
theorem od_p10_3 (h : P (.int 1000)) : OpD S Γ (binaryOp .Pow) (.int 10) (.int 3) P := od_pow (by unfold CPow; decide) (by rw [show ((10 : Int) ^ (3 : Int).toNat) = 1000 by decide +kernel]; exact h)
theorem od_p10_6 (h : P (.int 1000000)) : OpD S Γ (binaryOp .Pow) (.int 10) (.int 6) P := od_pow (by unfold CPow; decide) (by rw [show ((10 : Int) ^ (6 : Int).toNat) = 1000000 by decide +kernel]; exact h)
theorem od_p10_9 (h : P (.int 1000000000)) : OpD S Γ (binaryOp .Pow) (.int 10) (.int 9) P := od_pow (by unfold CPow; decide) (by rw [show ((10 : Int) ^ (9 : Int).toNat) = 1000000000 by decide +kernel]; exact h)
theorem od_p10_12 (h : P (.int 1000000000000)) : OpD S Γ (binaryOp .Pow) (.int 10) (.int 12) P := od_pow (by unfold CPow; decide) (by rw [show ((10 : Int) ^ (12 : Int).toNat) = 1000000000000 by decide +kernel]; exact h)
theorem od_p10_18 (h : P (.int 1000000000000000000)) : OpD S Γ (binaryOp .Pow) (.int 10) (.int 18) P := od_pow (by unfold CPow; decide) (by rw [show ((10 : Int) ^ (18 : Int).toNat) = 1000000000000000000 by decide +kernel]; exact h)
theorem od_p10_19 (h : P (.int 10000000000000000000)) : OpD S Γ (binaryOp .Pow) (.int 10) (.int 19) P := od_pow (by unfold CPow; decide) (by rw [show ((10 : Int) ^ (19 : Int).toNat) = 10000000000000000000 by decide +kernel]; exact h)
theorem od_p10_20 (h : P (.int 100000000000000000000)) : OpD S Γ (binaryOp .Pow) (.int 10) (.int 20) P := od_pow (by unfold CPow; decide) (by rw [show ((10 : Int) ^ (20 : Int).toNat) = 100000000000000000000 by decide +kernel]; exact h)
theorem od_p10_30 (h : P (.int 1000000000000000000000000000000)) : OpD S Γ (binaryOp .Pow) (.int 10) (.int 30) P := od_pow (by unfold CPow; decide) (by rw [show ((10 : Int) ^ (30 : Int).toNat) = 1000000000000000000000000000000 by decide +kernel]; exact h)
theorem od_p10_39 (h : P (.int 1000000000000000000000000000000000000000)) : OpD S Γ (binaryOp .Pow) (.int 10) (.int 39) P := od_pow (by unfold CPow; decide) (by rw [show ((10 : Int) ^ (39 : Int).toNat) = 1000000000000000000000000000000000000000 by decide +kernel]; exact h)
theorem od_p10_40 (h : P (.int 10000000000000000000000000000000000000000)) : OpD S Γ (binaryOp .Pow) (.int 10) (.int 40) P := od_pow (by unfold CPow; decide) (by rw [show ((10 : Int) ^ (40 : Int).toNat) = 10000000000000000000000000000000000000000 by decide +kernel]; exact h)
theorem od_p10_64 (h : P (.int 10000000000000000000000000000000000000000000000000000000000000000)) : OpD S Γ (binaryOp .Pow) (.int 10) (.int 64) P := od_pow (by unfold CPow; decide) (by rw [show ((10 : Int) ^ (64 : Int).toNat) = 10000000000000000000000000000000000000000000000000000000000000000 by decide +kernel]; exact h)
end
theorem bd_lt {n : Nat} {i : Int} (h0 : 0 ≤ i) (h : i < 2 ^ n) : Bd n i := by
  unfold Bd
  have e : ((i.natAbs : Nat) : Int) < ((2 ^ n : Nat) : Int) := by
    rw [Int.natAbs_of_nonneg h0, Int.natCast_pow]
    exact h
  exact Int.ofNat_lt.mp e
theorem lt_bd {n : Nat} {i : Int} (h : Bd n i) : i < 2 ^ n := by
  unfold Bd at h
  have e : ((i.natAbs : Nat) : Int) < ((2 ^ n : Nat) : Int) := Int.ofNat_lt.mpr h
  rw [Int.natCast_pow] at e
  exact Int.lt_of_le_of_lt Int.le_natAbs e
theorem sg_restB {cells : List Int} {P : D → Prop} (h : ∀ r : Int, 0 ≤ r → Bd 2560 r → P (.int r)) : StoGet cells "rest" P := sg_rest fun r h1 h2 => h r h1 (bd_lt h1 h2)
theorem spp_restB {cells : List Int} {y : Int} (h1 : 0 ≤ y) (h2 : Bd 2560 y) : StoPut cells "rest" (.int y) := spp_rest h1 (lt_bd h2)
theorem Bd.le {n : Nat} {i j : Int} (h : Bd n j) (e : i.natAbs ≤ j.natAbs) : Bd n i := Nat.lt_of_le_of_lt e h
theorem zs_cut {S : Scp} {Γ : Cg} {st st2 : Stmt} {sts : List Stmt} {δ : List Sl} {N : List Sl → Prop} {R : D → Prop} {B C : List Sl → Prop} (h : ∀ Q : List Sl → Prop, (∀ δ', JSs S Γ (st2 :: sts) δ' ⟨N, R, B, C⟩ → Q δ') → JS S Γ st δ ⟨Q, R, B, C⟩) : JSs S Γ (st :: st2 :: sts) δ ⟨N, R, B, C⟩ := jss_cons (h _ fun _ h => h)
end Z
set_option Elab.async false
set_option linter.all false
set_option maxRecDepth 100000
set_option maxHeartbeats 4000000
/-! Z7: a list of one's own passed for a while (je_own). -/
namespace Z
open PySem L2
def ers (G : Hp) (p : Addr) : Hp := fun b => if b = p then none else G b
theorem ers_ne {G : Hp} {p b : Addr} (h : b ≠ p) : ers G p b = G b := if_neg h
theorem ers_same {G : Hp} {p : Addr} : ers G p p = none := if_pos rfl
section
variable {K : PySem.W.Frag} {G H G' H' : Hp} {p : Addr} {vs : List V}
theorem Stp.thaw (h : H p = some (.lst vs)) (g : G p = none) (s : Stp K (upd G p (.lst vs)) H G' H') : Stp K G H (ers G' p) H' := by
  have hp' : G' p = some (.lst vs) := s.exG _ _ upd_same
  refine ⟨fun b u q => ?_, fun b u q => ?_, fun a o hH gG => ?_⟩
  · have z : b ≠ p := ne_of_none q g
    rw [ers_ne z]
    exact s.exG _ _ (by rw [upd_ne z]; exact q)
  · by_cases z : b = p
    · subst z; rw [ers_same] at q; cases q
    · rw [ers_ne z] at q; exact s.sub _ _ q
  · by_cases z : a = p
    · subst z
      rw [h] at hH
      cases hH
      exact ⟨ers_same, .inl (s.sub _ _ hp')⟩
    · obtain ⟨n', q⟩ := s.own a o hH (by rw [upd_ne z]; exact gG)
      refine ⟨by rw [ers_ne z]; exact n', ?_⟩
      rcases q with q | ⟨q1, o', q2, q3, q4⟩
      · exact .inl q
      · refine .inr ⟨q1, o', q2, q3, fun cells w => ?_⟩
        have e1 : Same G (upd G p (.lst vs)) := fun b u q => by rw [upd_ne (ne_of_none q g)]; exact q
        obtain ⟨kvs', w1, w2⟩ := q4 cells (w.at_ e1 hH hH)
        obtain ⟨kvs, v1, v2⟩ := w
        rw [hH] at v1
        cases v1
        rw [q2] at w1
        cases w1
        obtain ⟨c, a1, r1, l1, t1, s1, e, u1, u2⟩ := v2.ex
        obtain ⟨c', a2, r2, l2, t2, s2, e', u1', u2'⟩ := w2.ex
        have ec : c' = c := by
          have := q3.2
          rw [e, e'] at this
          simp [stoC, stoKvs] at this
          exact this
        subst ec
        refine ⟨_, q2, ⟨c', a2, r2, l2, t2, s2, e', ?_, u2'⟩⟩
        rw [ers_ne (ne_of_none u1 g)]
        exact u1'
end
mutual
def flatD : D → Prop
  | .tup ds => flatL ds
  | .obj _ _ ds => flatL ds
  | .lst _ => False
  | .sto _ => False
  | .scr _ => False
  | _ => True
def flatL : List D → Prop
  | [] => True
  | d :: ds => flatD d ∧ flatL ds
end
section
variable {K : PySem.W.Frag} {G H : Hp} {p : Addr} {vs : List V}
theorem SqT.ers {a : Addr} {xs : List V} (h : SqT K G a xs) (g : G p = some (.lst vs)) : SqT K (ers G p) a xs := by
  have key : ∀ o, G a = some o → (∀ ys, o ≠ .lst ys) → Z.ers G p a = some o := fun o h n => by
    rw [ers_ne (fun z => by subst z; rw [g] at h; cases h; exact n _ rfl)]
    exact h
  rcases h with (h | ⟨o, h⟩) | h
  · exact .inl (.inl (key _ h (fun _ z => by cases z)))
  · exact .inl (.inr ⟨o, key _ h (fun _ z => by cases z)⟩)
  · exact .inr h
mutual
theorem Rep.ers (g : G p = some (.lst vs)) : ∀ {d : D} {v : V}, flatD d → Rep K G H d v → Rep K (ers G p) H d v
  | .non, v, _, h => by unfold Rep at h ⊢; exact h
  | .bl b, v, _, h => by unfold Rep at h ⊢; exact h
  | .int i, v, _, h => by unfold Rep at h ⊢; exact h
  | .str x, v, _, h => by unfold Rep at h ⊢; exact h
  | .tup ds, v, f, h => by
    unfold Rep at h ⊢
    unfold flatD at f
    obtain ⟨a, vs, e, h1, h2⟩ := h
    exact ⟨a, vs, e, SqT.ers h1 g, RepL.ers g f h2⟩
  | .lst ds, v, f, h => by unfold flatD at f; exact f.elim
  | .obj C ns ds, v, f, h => by
    unfold Rep at h ⊢
    unfold flatD at f
    obtain ⟨a, dx, fs, e, h1, h2, h3⟩ := h
    refine ⟨a, dx, fs, e, ?_, h2, RepL.ers g f h3⟩
    rw [ers_ne (fun z => by subst z; rw [g] at h1; cases h1)]
    exact h1
  | .cls a, v, _, h => by unfold Rep at h ⊢; exact h
  | .ty n, v, _, h => by unfold Rep at h ⊢; exact h
  | .sto cells, v, f, h => by unfold flatD at f; exact f.elim
  | .scr ns, v, f, h => by unfold flatD at f; exact f.elim
theorem RepL.ers (g : G p = some (.lst vs)) : ∀ {ds : List D} {vs : List V}, flatL ds → RepL K G H ds vs → RepL K (ers G p) H ds vs
  | [], vs, _, h => by unfold RepL at h ⊢; exact h
  | d :: ds, vs, f, h => by
    unfold RepL at h ⊢
    unfold flatL at f
    obtain ⟨v, r, e, h1, h2⟩ := h
    exact ⟨v, r, e, Rep.ers g f.1 h1, RepL.ers g f.2 h2⟩
end
end
theorem je_own {S : Scp} {Γ : Cg} {δ : List Sl} {P : D → Prop} {e : Expr} (i : Nat) {ds : List D} (hδ : δ[i]? = some (.ow ds)) (h : JE S Γ e (δ.set i (.fz (.lst ds))) fun d => flatD d ∧ P d) : JE S Γ e δ P := by
  refine ⟨fun X hX σ G H st ev Q k => ?_⟩
  obtain ⟨p, vs, h1, g, h0, ev'⟩ := ev.freeze hδ
  exact h.run X hX σ _ H (st.freeze h0 h1 g) ev' Q fun v G' H' d s r q => k v (ers G' p) H' d (Stp.thaw h1 g s) (Rep.ers (s.exG _ _ upd_same) q.1 r) q.2
instance {sc : Scope} {x : Str} : Decidable (Vis sc x) := inferInstanceAs (Decidable (_ ∨ _ ∨ _))
instance {sc : Scope} {x : Str} : Decidable (Loc sc x) := inferInstanceAs (Decidable (_ ∨ _))
def okS (S : Scp) : Bool := decide S.N.Nodup && decide (∀ p ∈ S.vs, S.N[p.2]? = some p.1 ∧ Vis S.sc p.1) && decide (∀ p ∈ S.ss, S.N[p.2]? = some p.1 ∧ Loc S.sc p.1) && decide (∀ x ∈ S.gl, S.sc.names.lookup x = some .globalImplicit)
theorem ok_S {S : Scp} (h : okS S = true) : S.Ok := by
  unfold okS at h
  simp only [Bool.and_eq_true, decide_eq_true_eq] at h
  exact ⟨h.1.1.1, h.1.1.2, h.1.2, h.2⟩
def okF (N P : List Str) (sc : Scope) : Bool := sc.kind == .function && sc.isCoroutine == false && sc.isGenerator == false && decide N.Nodup && decide (N.take P.length = P) && decide (∀ x ∈ P, sc.names.lookup x = some .local ∨ sc.names.lookup x = some .cell) && decide (∀ y ∈ sc.names, y.2 ≠ .free)
theorem ok_F {N P : List Str} {sc : Scope} (h : okF N P sc = true) : FnScope N P sc := by
  unfold okF at h
  simp only [Bool.and_eq_true, decide_eq_true_eq, beq_iff_eq] at h
  obtain ⟨⟨⟨⟨⟨⟨a, b⟩, c⟩, d⟩, e⟩, f⟩, g⟩ := h
  exact ⟨a, b, c, d, e, f, g⟩
def okB (N : List Str) (sc scope : Scope) (own : List (Str × Nat)) : Bool := scope.kind == .function && decide (∀ y ∈ scope.names, scope.names.lookup y.1 = some y.2) && decide (∀ p ∈ own, N[p.2]? = some p.1) && decide (∀ y ∈ scope.names, y.2 = .free → sc.names.lookup y.1 = some .cell ∨ sc.names.lookup y.1 = some .free) && decide (∀ y ∈ scope.names, y.2 = .local ∨ y.2 = .cell → y.1 ∈ own.map (·.1) ∨ y.1 ∉ N)
theorem ok_B {S S' : Scp} {scope : Scope} {own : List (Str × Nat)} (h : okB S.N S.sc scope own = true) (h1 : okS S' = true) (N : S'.N = S.N) (sc : S'.sc = relS scope S.sc) (lv : S'.lv = S.lv) (st : decide (∀ x ∈ S'.ss, S'.sc.names.lookup x.1 = some .local) = true) : BlkS S S' scope own := by
  unfold okB at h
  simp only [Bool.and_eq_true, decide_eq_true_eq, beq_iff_eq] at h st
  obtain ⟨⟨⟨⟨a, b⟩, c⟩, d⟩, e⟩ := h
  exact ⟨⟨a, b, c, d, e⟩, ok_S h1, N, sc, lv, st⟩
theorem zs_setLc {S S' : Scp} {Γ : Cg} {δ : List Sl} {N B C : List Sl → Prop} {R : D → Prop} {elt tg iter : Expr} {ifs : List Expr} {scope : Scope} {own : List (Str × Nat)} {x : Str} {i : Nat} {py sp pos : Pos} (hv : Has S.ss x i) (hB : BlkS S S' scope own) (hx : (S.sc.names.lookup x == some .local && S.sc.kind == .function && py.line == pos.line && !(scope.names.any fun (n, k) => n == x && (k == .local || k == .cell))) = true)
    (h : JI S Γ tg iter δ fun n f => ∃ A : Nat → List D → Prop, A 0 [] ∧ (∀ i acc, i < n → A i acc → JGW S' Γ.inBlk (own.map (·.2)) tg (f i) (wipeD δ (own.map (·.2))) fun δ2 => JTs S' Γ.inBlk ifs δ2 fun t => if t = true then JE S' Γ.inBlk elt δ2 fun d => acc.length < sizeLine ∧ A (i + 1) (acc ++ [d]) else A (i + 1) acc) ∧ ∀ acc, A n acc → N (δ.set i (.fz (.lst acc))))
    (hs : ∀ env x, foldedSetIterable iter env x = pure x := by intros; rfl) : JS S Γ (.Assign [.Name x py] (.ListComp elt [⟨tg, iter, ifs, 0⟩] scope pos) sp) δ ⟨N, R, B, C⟩ := by
  simp only [Bool.and_eq_true, beq_iff_eq, Bool.not_eq_true'] at hx
  exact js_setLcZ hB hv.mem hx.1.1.1 hx.1.1.2 (by simpa using hx.1.2) hx.2 h hs
theorem ze_own {S : Scp} {Γ : Cg} {δ : List Sl} {P : D → Prop} {f : Expr} {x : Str} {p q : Pos} {as : List Expr} {ks : List Keyword} {i : Nat} {ds : List D} (hv : Has S.vs x i) (hδ : δ[i]? = some (.ow ds)) (h : JE S Γ (.Call f (.Name x p :: as) ks q) (δ.set i (.fz (.lst ds))) fun d => flatD d ∧ P d) : JE S Γ (.Call f (.Name x p :: as) ks q) δ P := je_own i hδ h
theorem zs_setFL {S : Scp} {Γ : Cg} {δ : List Sl} {N B C : List Sl → Prop} {R : D → Prop} {x : Str} {i : Nat} {p : Pos} {e : Expr} {pos : Pos} (hv : Has S.ss x i) (h : JF S Γ e δ fun ds => N (δ.set i (.ow ds))) (hs : ∀ env, swapsWith e (some (.Name x p)) pos.line env = pure false := by intro _; rfl) : JS S Γ (.Assign [.Name x p] e pos) δ ⟨N, R, B, C⟩ := zs_setF hv h hs
end Z
set_option Elab.async false
set_option linter.all false
set_option maxRecDepth 100000
set_option maxHeartbeats 4000000
namespace Z
open PySem L2
local macro_rules | `(tactic| lsm_bools) => `(tactic| fail)
local macro_rules | `(tactic| ktu_offI) => `(tactic| with_reducible (first | exact Has.head | (apply Has.tail; ktu_offI)))
local macro_rules | `(tactic| ktu_offL) => `(tactic| with_reducible (first | exact HasG.head | (apply HasG.tail; ktu_offL)))
local macro_rules | `(tactic| lcg_off) => `(tactic| exact Blt.h (by assumption) _ (by ktu_offL))
local macro_rules | `(tactic| lcg_sub) => `(tactic| first | assumption | omega | decide +kernel)
local macro_rules | `(tactic| lcg_src) => `(tactic| first | exact Bd.ok (n := 3000) (m := 3000) (by unfold Bd; decide +kernel) (by unfold Bd; decide +kernel) (by decide) | exact mulok_r (by omega) | exact mulok_l (by omega) | exact Bd.ok (by mem_news) (by mem_news) (by omega))
local macro_rules | `(tactic| mem_news) => `(tactic| with_reducible (first | assumption | exact Bd.neg (by mem_news) | exact Bd.mul (by mem_news) (by mem_news) | exact Bd.add (by mem_news) (by mem_news) | exact Bd.sub (by mem_news) (by mem_news)))
local macro_rules | `(tactic| nest_cls) => `(tactic| first | exact PyProof.noPylong_small (by decide) | exact nopy_i (by mem_news) (by omega) | exact nopy_j (by mem_news) (by omega))
local macro_rules | `(tactic| k_offL) => `(tactic| first
  | (with_reducible show JE _ _ (Expr.Name _ _) _ _
     first
     | refine ze_name (by ktu_offI) (by rfl) ?_
     | refine zt_int (by ktu_offL) (by lcg_off) ?_
     | refine zt_bool (by ktu_offL) (by lcg_off) ?_
     | refine zt_str (by ktu_offL) (by lcg_off) ?_
     | refine zt_tuple (by ktu_offL) (by lcg_off) ?_
     | refine zt_list (by ktu_offL) (by lcg_off) ?_
     | refine zt_dict (by ktu_offL) (by lcg_off) ?_)
  | (with_reducible show JE _ _ (Expr.Constant _ _ _) _ _
     first | refine je_int ?_ | refine je_str ?_ | refine je_bl ?_ | refine je_non ?_)
  | (with_reducible show JE _ _ (Expr.Subscript _ _ _) _ _
     first
     | refine je_stoGet ?_
     | refine je_ix (fun _ _ => rfl) ?_)
  | (with_reducible show JE _ _ (Expr.BinOp _ _ _ _) _ _
     refine je_bin ?_)
  | (with_reducible show JE _ _ (Expr.Call _ _ _ _) _ _
     first
     | refine ze_own (by ktu_offI) (by rfl) ?_
     | refine ze_call (by assumption) (by first | decide | exact Nat.le_refl _) (by ktu_offL) ?_
     | refine zb_len (by ktu_offL) (by lcg_off) ?_
     | refine zb_int (by ktu_offL) (by lcg_off) ?_
     | refine zb_abs (by ktu_offL) (by lcg_off) ?_
     | refine zb_isi (by ktu_offL) (by lcg_off) ?_
     | refine zb_max (by ktu_offL) (by lcg_off) ?_
     | refine zb_min (by ktu_offL) (by lcg_off) ?_
     | refine zb_list (by ktu_offL) (by lcg_off) ?_)
  | (with_reducible show JE _ _ (Expr.Tuple _ _ _) _ _
     refine je_tup ?_)
  | (with_reducible show JE _ _ (Expr.UnaryOp _ _ _) _ _
     first | refine je_not ?_ | refine je_un ?_)
  | (with_reducible show JE _ _ (Expr.Compare _ _ _ _) _ _
     first | refine je_cmp (nomark _) ?_ | refine je_chain (by with_unfolding_all rfl) ?_)
  | (with_reducible show JE _ _ (Expr.BoolOp _ _ _) _ _
     first | refine je_one ?_ | refine je_and ?_ | refine je_or ?_)
  | (with_reducible show JE _ _ (Expr.IfExp _ _ _ _) _ _
     refine je_if ?_)
  | (with_reducible show JE _ _ (Expr.List _ _) _ _
     refine jf_je (jf_lst ?_)))
local macro_rules | `(tactic| k_subL) => `(tactic| first
  | ((with_reducible show JT _ _ (Expr.Compare _ _ _ _) _ _); first | refine jt_cmp (nomark _) ?_ | refine jt_chain (by with_unfolding_all rfl) ?_)
  | ((with_reducible show JT _ _ (Expr.BoolOp _ _ _) _ _); refine jw_t ?_)
  | ((with_reducible show JT _ _ (Expr.UnaryOp _ _ _) _ _); refine jt_not ?_)
  | refine jt_val ?_ (fun _ _ => rfl))
local macro_rules | `(tactic| k_clsL) => `(tactic| first
  | refine jw_and1 ?_
  | refine jw_or1 ?_
  | refine jw_and ?_
  | refine jw_or ?_)
local macro_rules | `(tactic| kct_strs) => `(tactic| first
  | (with_reducible refine od_add ?_)
  | (with_reducible refine od_sub ?_)
  | ((with_reducible show OpD _ _ (binaryOp Operator.Mult) _ _ _); refine od_mul (by lcg_src) ?_)
  | ((with_reducible show OpD _ _ (binaryOp Operator.Mod) _ _ _); refine od_mod (by lcg_sub) ?_)
  | ((with_reducible show OpD _ _ (binaryOp Operator.FloorDiv) _ _ _); refine od_fdiv (by lcg_sub) (by nest_cls) ?_)
  | ((with_reducible show OpD _ _ (binaryOp Operator.Pow) _ _ _); first | (with_reducible refine od_p10_3 ?_) | (with_reducible refine od_p10_6 ?_) | (with_reducible refine od_p10_9 ?_) | (with_reducible refine od_p10_12 ?_) | (with_reducible refine od_p10_18 ?_) | (with_reducible refine od_p10_19 ?_) | (with_reducible refine od_p10_20 ?_) | (with_reducible refine od_p10_30 ?_) | (with_reducible refine od_p10_39 ?_) | (with_reducible refine od_p10_40 ?_) | (with_reducible refine od_p10_64 ?_))
  | (with_reducible refine od_eq ?_)
  | (with_reducible refine od_ne ?_)
  | (with_reducible refine od_lt ?_)
  | (with_reducible refine od_le ?_)
  | (with_reducible refine od_gt ?_)
  | (with_reducible refine od_ge ?_)
  | (with_reducible refine od_eqS ?_)
  | (with_reducible refine od_neS ?_)
  | (with_reducible refine od_eqB ?_)
  | (with_reducible refine od_isN ?_)
  | (with_reducible refine od_notN ?_)
  | ((with_reducible show OpD _ _ (binaryOp Operator.Add) (D.lst _) (D.lst _) _); refine of_od (of_cat (by lcg_sub) ?_))
  | (with_reducible refine od_iadd ?_)
  | (with_reducible refine od_isub ?_))
local macro_rules | `(tactic| kd_addB) => `(tactic| first
  | (with_reducible refine cd_lenL ?_)
  | (with_reducible refine cd_lenT ?_)
  | (with_reducible refine cd_int ?_)
  | (with_reducible refine cd_intB ?_)
  | (with_reducible refine cd_abs ?_)
  | (with_reducible refine cd_max ?_)
  | (with_reducible refine cd_min ?_)
  | (with_reducible refine ci_bool (by with_unfolding_all rfl) ?_)
  | (with_reducible refine ci_int (by with_unfolding_all rfl) ?_)
  | (with_reducible refine ci_str (by with_unfolding_all rfl) ?_)
  | (with_reducible refine ci_tup (by with_unfolding_all rfl) ?_)
  | (with_reducible refine ci_lst (by with_unfolding_all rfl) ?_)
  | (with_reducible refine ci_dict (by with_unfolding_all rfl) ?_))
local macro_rules | `(tactic| kd_addW) => `(tactic| first
  | refine zs_ret ?_
  | refine zs_if ?_
  | refine zs_set (by ktu_offI) ?_
  | refine zs_append (by ktu_offI) (by rfl) ?_
  | refine zs_expr ?_
  | refine zs_aug (by ktu_offI) (by rfl) ?_
  | refine zs_par (by ktu_offI) (by ktu_offI) (by decide) (by decide +kernel) (by decide +kernel) ?_ (fun env h => by cases env; cases h; rfl)
  | refine zs_stoPut ?_
  | refine zs_asg ?_)
local macro_rules | `(tactic| kcj_in) => `(tactic| first
  | refine zg_name (by ktu_offI) ?_
  | refine jg_tup (by rfl) ?_)
local macro_rules | `(tactic| krn_off) => `(tactic| first
  | refine L2.iteT ?_
  | refine L2.iteF ?_
  | refine ite_dT (by lcg_sub) ?_
  | refine ite_dF (by lcg_sub) ?_
  | refine ite_ndT (by lcg_sub) ?_
  | refine ite_ndF (by lcg_sub) ?_)
local macro_rules | `(tactic| kas_types) => `(tactic| first
  | ((with_reducible show JE _ _ _ _ _); k_offL)
  | ((with_reducible show OpD _ _ _ _ _ _); kct_strs)
  | ((with_reducible show JSs _ _ _ _ _); first | refine zs_one ?_ | refine zs_cons ?_ | refine zs_nil ?_)
  | ((with_reducible show JS _ _ _ _ _); kd_addW)
  | ((with_reducible show JT _ _ _ _ _); k_subL)
  | ((with_reducible show JW _ _ _ _ _); k_clsL)
  | ((with_reducible show IxD _ _ _ _ _); first | refine ixd_tup (by rfl) ?_ | refine ixd_lst (by rfl) ?_)
  | ((with_reducible show UnD _ _ _ _ _); refine ud_neg ?_)
  | ((with_reducible show JA _ _ _ _ _); first | refine ja_nil ?_ | refine ja_cons (fun _ => rfl) ?_)
  | ((with_reducible show isBl _ _); refine isBl_mk ?_)
  | ((with_reducible show CallD _ _ _ _ _); kd_addB)
  | ((with_reducible show CallF _ _ _ _ _); first | refine cf_list ?_ | refine cf_listT ?_)
  | ((with_reducible show JG _ _ _ _ _ _); kcj_in)
  | ((with_reducible show JGs _ _ _ _ _ _); first | refine jgs_nil ?_ | refine jgs_cons ?_)
  | ((with_reducible show (if _ then _ else _ : Prop)); krn_off)
  | ((with_reducible show _ ≤ sizeLine ∧ _); refine And.intro (by first | exact (by decide : _ ≤ sizeLine) | (simp; done) | (simp; decide)) ?_)
  | ((with_reducible show flatD _ ∧ _); refine And.intro (by simp [flatD, flatL]) ?_)
  | ((with_reducible show ∃ c, D.sto _ = D.sto c ∧ _); refine Exists.intro _ (And.intro rfl ?_))
  | ((with_reducible show StoGet _ _ _); first | refine sg_restB (fun r h1 h2 => ?_) | refine sg_left (fun r h1 => ?_) | refine sg_at (fun r h1 h2 => ?_) | refine sg_turn (fun r => ?_) | refine sg_seed (fun r => ?_) | refine sg_cells ?_)
  | lsm_bools)
local macro_rules | `(tactic| kat_tups) => `(tactic| repeat kas_types)
def top (i : Nat) : Stmt := PySem.Challenge.pw_onetelling_k01_fraction_arithmetic.main.body.getD i (.Pass ⟨0, 0, 0, 0⟩)
abbrev EK := Value → List Str → List D → Prop
abbrev fr (x : Int × Int) : D := .tup [.int x.1, .int x.2]
/-! ### fractions, in plain Lean -/
def partF (n d : Int) : Int × Int := if d < 0 then (-n / (Int.gcd n d : Int), -d / (Int.gcd n d : Int)) else (n / (Int.gcd n d : Int), d / (Int.gcd n d : Int))
def plusF (x y : Int × Int) : Int × Int := if x.2 = y.2 then partF (x.1 + y.1) x.2 else partF (x.1 * y.2 + y.1 * x.2) (x.2 * y.2)
def minusF (x y : Int × Int) : Int × Int := if x.2 = y.2 then partF (x.1 - y.1) x.2 else partF (x.1 * y.2 - y.1 * x.2) (x.2 * y.2)
def timesF (x y : Int × Int) : Int × Int := partF (x.1 * y.1) (x.2 * y.2)
def overF (x y : Int × Int) : Int × Int := partF (x.1 * y.2) (x.2 * y.1)
theorem gcd_pos {n d : Int} (h : d ≠ 0) : (0 : Int) < (Int.gcd n d : Int) := by
  have : Int.gcd n d ≠ 0 := fun z => h (Int.gcd_eq_zero_iff.mp z).2
  omega
theorem partF_den {n d : Int} (h : d ≠ 0) : 0 < (partF n d).2 := by
  have g := gcd_pos (n := n) h
  have dv : (Int.gcd n d : Int) ∣ d := Int.gcd_dvd_right ..
  unfold partF
  split
  · exact Int.ediv_pos_of_pos_of_dvd (by omega) (Int.le_of_lt g) ((Int.dvd_neg).mpr dv)
  · exact Int.ediv_pos_of_pos_of_dvd (by omega) (Int.le_of_lt g) dv
theorem partF_cross {n d : Int} (h : d ≠ 0) : (partF n d).1 * d = n * (partF n d).2 := by
  have g := gcd_pos (n := n) h
  obtain ⟨a, ha⟩ : (Int.gcd n d : Int) ∣ n := Int.gcd_dvd_left ..
  obtain ⟨b, hb⟩ : (Int.gcd n d : Int) ∣ d := Int.gcd_dvd_right ..
  unfold partF
  generalize hg : (Int.gcd n d : Int) = e at *
  split
  · have e1 : -n / e = -a := by rw [ha, ← Int.mul_neg, Int.mul_ediv_cancel_left _ (by omega)]
    have e2 : -d / e = -b := by rw [hb, ← Int.mul_neg, Int.mul_ediv_cancel_left _ (by omega)]
    simp only [e1, e2]
    rw [ha, hb]
    simp only [Int.neg_mul, Int.mul_neg]
    rw [Int.mul_left_comm, Int.mul_assoc]
  · have e1 : n / e = a := by rw [ha, Int.mul_ediv_cancel_left _ (by omega)]
    have e2 : d / e = b := by rw [hb, Int.mul_ediv_cancel_left _ (by omega)]
    simp only [e1, e2]
    rw [ha, hb]
    rw [Int.mul_left_comm, Int.mul_assoc]
theorem partF_gcd {n d : Int} (h : d ≠ 0) : Int.gcd (partF n d).1 (partF n d).2 = 1 := by
  have g : 0 < Int.gcd n d := by
    have := gcd_pos (n := n) h
    omega
  have dn : (Int.gcd n d : Int) ∣ n := Int.gcd_dvd_left ..
  have dd : (Int.gcd n d : Int) ∣ d := Int.gcd_dvd_right ..
  have key : Int.gcd (n / (Int.gcd n d : Int)) (d / (Int.gcd n d : Int)) = 1 := by
    rw [Int.gcd_ediv dn dd]
    simp only [Int.natAbs_natCast]
    exact Nat.div_self g
  unfold partF
  split
  · simp only [Int.neg_ediv_of_dvd dn, Int.neg_ediv_of_dvd dd, Int.neg_gcd, Int.gcd_neg]
    exact key
  · exact key
theorem ediv_small {n g : Int} (hg : 0 < g) (hd : g ∣ n) : (n / g).natAbs ≤ n.natAbs := by
  obtain ⟨a, rfl⟩ := hd
  rw [Int.mul_ediv_cancel_left _ (by omega), Int.natAbs_mul]
  exact Nat.le_mul_of_pos_left _ (by omega)
theorem partF_le {n d : Int} (h : d ≠ 0) : (partF n d).1.natAbs ≤ n.natAbs ∧ (partF n d).2.natAbs ≤ d.natAbs := by
  have g := gcd_pos (n := n) h
  have dn : (Int.gcd n d : Int) ∣ n := Int.gcd_dvd_left ..
  have dd : (Int.gcd n d : Int) ∣ d := Int.gcd_dvd_right ..
  unfold partF
  split
  · have h1 := ediv_small (n := -n) g ((Int.dvd_neg).mpr dn)
    have h2 := ediv_small (n := -d) g ((Int.dvd_neg).mpr dd)
    rw [Int.natAbs_neg] at h1 h2
    exact ⟨h1, h2⟩
  · exact ⟨ediv_small g dn, ediv_small g dd⟩
/-! ### common_divisor -/
inductive cGcd : List D → (D → Prop) → EK → Prop
  | mk {P : D → Prop} {E : EK} (a b : Int) (ha : 0 ≤ a) (hb : 0 ≤ b) (k : P (.int (Int.gcd a b))) : cGcd [.int a, .int b] P E
abbrev S_gcd : Scp := { N := ["a", "b"], sc := defScope (top 4), vs := [("a", 0), ("b", 1)], ss := [("a", 0), ("b", 1)], gl := [], lv := 1 }
theorem gcd_step {a b : Int} (ha : 0 ≤ a) (hb : 0 < b) : Int.gcd b (a % b) = Int.gcd a b := by
  rw [Int.gcd_comm a b]
  unfold Int.gcd
  rw [Int.natAbs_emod_of_nonneg ha, Nat.gcd_comm b.natAbs (a.natAbs % b.natAbs), ← Nat.gcd_rec]
theorem b_gcd {U : Env1} {bs : List Str} (hB : Blt U bs) (G H : Hp) (ds) (P) (E) (h : cGcd ds P E) : JSs S_gcd (U.cg G H fun _ => E) (defBody (top 4)) (startD S_gcd.N ds) { nx := fun _ => P .non, rt := P } := by
  obtain ⟨a, b, ha, hb, k⟩ := h
  refine zs_cons (zs_while rfl (fun m δ' => ∃ a' b' : Int, 0 ≤ a' ∧ 0 ≤ b' ∧ Int.gcd a' b' = Int.gcd a b ∧ m = b'.toNat ∧ δ' = [.fz (.int a'), .fz (.int b')]) b.toNat ⟨a, b, ha, hb, rfl, rfl, rfl⟩ ?_)
  rintro m δ' ⟨a', b', ha', hb', hg, rfl, rfl⟩
  kat_tups
  refine ite_nd (fun h => ?_) (fun h => ?_)
  · kat_tups
    refine ⟨(a' % b').toNat, ?_, b', a' % b', hb', ?_, ?_, rfl, rfl⟩
    · have := Int.emod_lt_of_pos a' (show 0 < b' by omega)
      omega
    · exact Int.emod_nonneg _ h
    · rw [gcd_step ha' (by omega), hg]
  · kat_tups
    subst h
    rw [← hg] at k
    simp at k
    rwa [Int.natAbs_of_nonneg ha'] at k
/-! ### part -/
inductive cPart : List D → (D → Prop) → EK → Prop
  | mk {P : D → Prop} {E : EK} (n d : Int) (h0 : d ≠ 0) (hn : Bd 13500 n) (hd : Bd 13500 d) (k : P (fr (partF n d))) : cPart [.int n, .int d] P E
abbrev S_part : Scp := { N := ["n", "d", "divisor"], sc := defScope (top 5), vs := [("n", 0), ("d", 1), ("divisor", 2)], ss := [("n", 0), ("d", 1), ("divisor", 2)], gl := ["BadFraction", "abs", "common_divisor"], lv := 2 }
local macro_rules | `(tactic| lsm_bools) => `(tactic| refine cGcd.mk _ _ (by first | omega | (split <;> omega)) (by omega) ?_)
theorem abs_gcd (n d : Int) : Int.gcd (if n < 0 then -n else n) d = Int.gcd n d := by
  split
  · rw [Int.neg_gcd]
  · rfl
theorem Bd.neg' {n : Nat} {i : Int} (h : Bd n i) : Bd n (-i) := h.neg
theorem b_part {U : Env1} {bs : List Str} (hB : Blt U ["abs"]) (F1 : U.Def "common_divisor" 2 [] cGcd) (G H : Hp) (ds) (P) (E) (h : cPart ds P E) : JSs S_part (U.cg G H fun _ => E) (defBody (top 5)) (startD S_part.N ds) { nx := fun _ => P .non, rt := P } := by
  obtain ⟨n, d, h0, hn, hd, k⟩ := h
  kat_tups
  have hg := gcd_pos (n := n) h0
  refine ite_d (fun h1 => ?_) (fun h1 => ?_)
  · kat_tups
    subst h1
    have e : partF n 1 = (n, 1) := by unfold partF; simp
    rw [e] at k
    exact k
  kat_tups
  refine ite_d (fun h2 => ?_) (fun h2 => ?_)
  · kat_tups
    simp only [abs_gcd, Int.neg_gcd, Int.gcd_neg]
    have e : partF n d = (-n / (Int.gcd n d : Int), -d / (Int.gcd n d : Int)) := if_pos h2
    rw [e] at k
    refine ite_d (fun h3 => ?_) (fun h3 => ?_)
    · kat_tups
      rw [h3] at k
      simpa using k
    · kat_tups
      exact k
  · kat_tups
    simp only [abs_gcd]
    have e : partF n d = (n / (Int.gcd n d : Int), d / (Int.gcd n d : Int)) := if_neg h2
    rw [e] at k
    refine ite_d (fun h3 => ?_) (fun h3 => ?_)
    · kat_tups
      rw [h3] at k
      simpa using k
    · kat_tups
      exact k
/-! ### plus, minus, times, over -/
local macro_rules | `(tactic| lsm_bools) => `(tactic| refine cPart.mk _ _ (by lcg_sub) (Bd.mono (by mem_news) (by omega)) (Bd.mono (by mem_news) (by omega)) ?_)
/-- parts below 2^m and 2^n -/
inductive cBin (f : Int × Int → Int × Int → Int × Int) (ok : Int × Int → Int × Int → Prop) : List D → (D → Prop) → EK → Prop
  | mk {P : D → Prop} {E : EK} (m n : Nat) (a b c d : Int) (hb : 0 < b) (hd : 0 < d) (ho : ok (a, b) (c, d)) (ha' : Bd m a) (hb' : Bd m b) (hc' : Bd n c) (hd' : Bd n d) (hm : m + n ≤ 13490) (k : P (fr (f (a, b) (c, d)))) : cBin f ok [fr (a, b), fr (c, d)] P E
abbrev okT : Int × Int → Int × Int → Prop := fun _ _ => True
abbrev okN : Int × Int → Int × Int → Prop := fun _ y => y.1 ≠ 0
abbrev S_plus : Scp := { N := ["x", "y"], sc := defScope (top 6), vs := [("x", 0), ("y", 1)], ss := [("x", 0), ("y", 1)], gl := ["part"], lv := 3 }
abbrev S_minus : Scp := { N := ["x", "y"], sc := defScope (top 7), vs := [("x", 0), ("y", 1)], ss := [("x", 0), ("y", 1)], gl := ["part"], lv := 3 }
abbrev S_times : Scp := { N := ["x", "y"], sc := defScope (top 8), vs := [("x", 0), ("y", 1)], ss := [("x", 0), ("y", 1)], gl := ["part"], lv := 3 }
abbrev S_over : Scp := { N := ["x", "y"], sc := defScope (top 9), vs := [("x", 0), ("y", 1)], ss := [("x", 0), ("y", 1)], gl := ["BadFraction", "part"], lv := 3 }
theorem b_plus {U : Env1} (F1 : U.Def "part" 3 [] cPart) (G H : Hp) (ds) (P) (E) (h : cBin plusF okT ds P E) : JSs S_plus (U.cg G H fun _ => E) (defBody (top 6)) (startD S_plus.N ds) { nx := fun _ => P .non, rt := P } := by
  obtain ⟨m, n, a, b, c, d, hb, hd, _, ha', hb', hc', hd', hm, k⟩ := h
  unfold plusF at k
  have hbd : b * d ≠ 0 := Int.ne_of_gt (Int.mul_pos hb hd)
  have hb0 : b ≠ 0 := by omega
  kat_tups
  refine ite_d (fun h1 => ?_) (fun h1 => ?_)
  · kat_tups
    rw [if_pos h1] at k
    exact k
  · kat_tups
    rw [if_neg h1] at k
    exact k
theorem b_minus {U : Env1} (F1 : U.Def "part" 3 [] cPart) (G H : Hp) (ds) (P) (E) (h : cBin minusF okT ds P E) : JSs S_minus (U.cg G H fun _ => E) (defBody (top 7)) (startD S_minus.N ds) { nx := fun _ => P .non, rt := P } := by
  obtain ⟨m, n, a, b, c, d, hb, hd, _, ha', hb', hc', hd', hm, k⟩ := h
  unfold minusF at k
  have hbd : b * d ≠ 0 := Int.ne_of_gt (Int.mul_pos hb hd)
  have hb0 : b ≠ 0 := by omega
  kat_tups
  refine ite_d (fun h1 => ?_) (fun h1 => ?_)
  · kat_tups
    rw [if_pos h1] at k
    exact k
  · kat_tups
    rw [if_neg h1] at k
    exact k
theorem b_times {U : Env1} (F1 : U.Def "part" 3 [] cPart) (G H : Hp) (ds) (P) (E) (h : cBin timesF okT ds P E) : JSs S_times (U.cg G H fun _ => E) (defBody (top 8)) (startD S_times.N ds) { nx := fun _ => P .non, rt := P } := by
  obtain ⟨m, n, a, b, c, d, hb, hd, _, ha', hb', hc', hd', hm, k⟩ := h
  have hbd : b * d ≠ 0 := Int.ne_of_gt (Int.mul_pos hb hd)
  kat_tups
  exact k
theorem b_over {U : Env1} (F1 : U.Def "part" 3 [] cPart) (G H : Hp) (ds) (P) (E) (h : cBin overF okN ds P E) : JSs S_over (U.cg G H fun _ => E) (defBody (top 9)) (startD S_over.N ds) { nx := fun _ => P .non, rt := P } := by
  obtain ⟨m, n, a, b, c, d, hb, hd, ho, ha', hb', hc', hd', hm, k⟩ := h
  have ho' : c ≠ 0 := ho
  have hbd : b * c ≠ 0 := Int.mul_ne_zero (by omega) ho'
  kat_tups
  exact k
/-! ### below, compare -/
inductive cRel (f : Int × Int → Int × Int → D) : List D → (D → Prop) → EK → Prop
  | mk {P : D → Prop} {E : EK} (n : Nat) (a b c d : Int) (ha' : Bd n a) (hb' : Bd n b) (hc' : Bd n c) (hd' : Bd n d) (hm : n ≤ 100000) (k : P (f (a, b) (c, d))) : cRel f [fr (a, b), fr (c, d)] P E
def belowF (x y : Int × Int) : D := .bl (decide (x.1 * y.2 < y.1 * x.2))
def compareF (x y : Int × Int) : D := .int (if x.1 * y.2 < y.1 * x.2 then -1 else if y.1 * x.2 < x.1 * y.2 then 1 else 0)
abbrev S_below : Scp := { N := ["x", "y"], sc := defScope (top 11), vs := [("x", 0), ("y", 1)], ss := [("x", 0), ("y", 1)], gl := [], lv := 1 }
abbrev S_compare : Scp := { N := ["x", "y", "left", "right"], sc := defScope (top 12), vs := [("x", 0), ("y", 1), ("left", 2), ("right", 3)], ss := [("x", 0), ("y", 1), ("left", 2), ("right", 3)], gl := [], lv := 1 }
theorem b_below {U : Env1} (G H : Hp) (ds) (P) (E) (h : cRel belowF ds P E) : JSs S_below (U.cg G H fun _ => E) (defBody (top 11)) (startD S_below.N ds) { nx := fun _ => P .non, rt := P } := by
  obtain ⟨n, a, b, c, d, ha', hb', hc', hd', hm, k⟩ := h
  kat_tups
  exact k
theorem b_compare {U : Env1} (G H : Hp) (ds) (P) (E) (h : cRel compareF ds P E) : JSs S_compare (U.cg G H fun _ => E) (defBody (top 12)) (startD S_compare.N ds) { nx := fun _ => P .non, rt := P } := by
  obtain ⟨n, a, b, c, d, ha', hb', hc', hd', hm, k⟩ := h
  unfold compareF at k
  kat_tups
  refine ite_d (fun h1 => ?_) (fun h1 => ?_)
  · kat_tups
    rw [if_pos h1] at k
    exact k
  · kat_tups
    rw [if_neg h1] at k
    refine ite_d (fun h2 => ?_) (fun h2 => ?_)
    · kat_tups
      rw [if_pos h2] at k
      exact k
    · kat_tups
      rw [if_neg h2] at k
      exact k
end Z
set_option Elab.async false
set_option linter.all false
set_option maxRecDepth 100000
set_option maxHeartbeats 4000000
namespace Z
open PySem L2
local macro_rules | `(tactic| lsm_bools) => `(tactic| fail)
local macro_rules | `(tactic| ktu_offI) => `(tactic| with_reducible (first | exact Has.head | (apply Has.tail; ktu_offI)))
local macro_rules | `(tactic| ktu_offL) => `(tactic| with_reducible (first | exact HasG.head | (apply HasG.tail; ktu_offL)))
local macro_rules | `(tactic| lcg_off) => `(tactic| exact Blt.h (by assumption) _ (by ktu_offL))
local macro_rules | `(tactic| lcg_sub) => `(tactic| first | assumption | omega | decide +kernel)
local macro_rules | `(tactic| lcg_src) => `(tactic| first | exact Bd.ok (n := 3000) (m := 3000) (by unfold Bd; decide +kernel) (by unfold Bd; decide +kernel) (by decide) | exact mulok_r (by omega) | exact mulok_l (by omega) | exact Bd.ok (by mem_news) (by mem_news) (by omega))
local macro_rules | `(tactic| mem_news) => `(tactic| with_reducible (first | assumption | exact Bd.neg (by mem_news) | exact Bd.mul (by mem_news) (by mem_news) | exact Bd.add (by mem_news) (by mem_news) | exact Bd.sub (by mem_news) (by mem_news)))
local macro_rules | `(tactic| nest_cls) => `(tactic| first | exact PyProof.noPylong_small (by decide) | exact nopy_i (by mem_news) (by omega) | exact nopy_j (by mem_news) (by omega))
local macro_rules | `(tactic| k_offL) => `(tactic| first
  | (with_reducible show JE _ _ (Expr.Name _ _) _ _
     first
     | refine ze_name (by ktu_offI) (by rfl) ?_
     | refine zt_int (by ktu_offL) (by lcg_off) ?_
     | refine zt_bool (by ktu_offL) (by lcg_off) ?_
     | refine zt_str (by ktu_offL) (by lcg_off) ?_
     | refine zt_tuple (by ktu_offL) (by lcg_off) ?_
     | refine zt_list (by ktu_offL) (by lcg_off) ?_
     | refine zt_dict (by ktu_offL) (by lcg_off) ?_)
  | (with_reducible show JE _ _ (Expr.Constant _ _ _) _ _
     first | refine je_int ?_ | refine je_str ?_ | refine je_bl ?_ | refine je_non ?_)
  | (with_reducible show JE _ _ (Expr.Subscript _ _ _) _ _
     first
     | refine je_stoGet ?_
     | refine je_ix (fun _ _ => rfl) ?_)
  | (with_reducible show JE _ _ (Expr.BinOp _ _ _ _) _ _
     refine je_bin ?_)
  | (with_reducible show JE _ _ (Expr.Call _ _ _ _) _ _
     first
     | refine ze_own (by ktu_offI) (by rfl) ?_
     | refine ze_call (by assumption) (by first | decide | exact Nat.le_refl _) (by ktu_offL) ?_
     | refine zb_len (by ktu_offL) (by lcg_off) ?_
     | refine zb_int (by ktu_offL) (by lcg_off) ?_
     | refine zb_abs (by ktu_offL) (by lcg_off) ?_
     | refine zb_isi (by ktu_offL) (by lcg_off) ?_
     | refine zb_max (by ktu_offL) (by lcg_off) ?_
     | refine zb_min (by ktu_offL) (by lcg_off) ?_
     | refine zb_list (by ktu_offL) (by lcg_off) ?_)
  | (with_reducible show JE _ _ (Expr.Tuple _ _ _) _ _
     refine je_tup ?_)
  | (with_reducible show JE _ _ (Expr.UnaryOp _ _ _) _ _
     first | refine je_not ?_ | refine je_un ?_)
  | (with_reducible show JE _ _ (Expr.Compare _ _ _ _) _ _
     first | refine je_cmp (nomark _) ?_ | refine je_chain (by with_unfolding_all rfl) ?_)
  | (with_reducible show JE _ _ (Expr.BoolOp _ _ _) _ _
     first | refine je_one ?_ | refine je_and ?_ | refine je_or ?_)
  | (with_reducible show JE _ _ (Expr.IfExp _ _ _ _) _ _
     refine je_if ?_)
  | (with_reducible show JE _ _ (Expr.List _ _) _ _
     refine jf_je (jf_lst ?_)))
local macro_rules | `(tactic| k_subL) => `(tactic| first
  | ((with_reducible show JT _ _ (Expr.Compare _ _ _ _) _ _); first | refine jt_cmp (nomark _) ?_ | refine jt_chain (by with_unfolding_all rfl) ?_)
  | ((with_reducible show JT _ _ (Expr.BoolOp _ _ _) _ _); refine jw_t ?_)
  | ((with_reducible show JT _ _ (Expr.UnaryOp _ _ _) _ _); refine jt_not ?_)
  | refine jt_val ?_ (fun _ _ => rfl))
local macro_rules | `(tactic| k_clsL) => `(tactic| first
  | refine jw_and1 ?_
  | refine jw_or1 ?_
  | refine jw_and ?_
  | refine jw_or ?_)
local macro_rules | `(tactic| kct_strs) => `(tactic| first
  | (with_reducible refine od_add ?_)
  | (with_reducible refine od_sub ?_)
  | ((with_reducible show OpD _ _ (binaryOp Operator.Mult) _ _ _); refine od_mul (by lcg_src) ?_)
  | ((with_reducible show OpD _ _ (binaryOp Operator.Mod) _ _ _); refine od_mod (by lcg_sub) ?_)
  | ((with_reducible show OpD _ _ (binaryOp Operator.FloorDiv) _ _ _); refine od_fdiv (by lcg_sub) (by nest_cls) ?_)
  | ((with_reducible show OpD _ _ (binaryOp Operator.Pow) _ _ _); first | (with_reducible refine od_p10_3 ?_) | (with_reducible refine od_p10_6 ?_) | (with_reducible refine od_p10_9 ?_) | (with_reducible refine od_p10_12 ?_) | (with_reducible refine od_p10_18 ?_) | (with_reducible refine od_p10_19 ?_) | (with_reducible refine od_p10_20 ?_) | (with_reducible refine od_p10_30 ?_) | (with_reducible refine od_p10_39 ?_) | (with_reducible refine od_p10_40 ?_) | (with_reducible refine od_p10_64 ?_))
  | (with_reducible refine od_eq ?_)
  | (with_reducible refine od_ne ?_)
  | (with_reducible refine od_lt ?_)
  | (with_reducible refine od_le ?_)
  | (with_reducible refine od_gt ?_)
  | (with_reducible refine od_ge ?_)
  | (with_reducible refine od_eqS ?_)
  | (with_reducible refine od_neS ?_)
  | (with_reducible refine od_eqB ?_)
  | (with_reducible refine od_isN ?_)
  | (with_reducible refine od_notN ?_)
  | ((with_reducible show OpD _ _ (binaryOp Operator.Add) (D.lst _) (D.lst _) _); refine of_od (of_cat (by lcg_sub) ?_))
  | (with_reducible refine od_iadd ?_)
  | (with_reducible refine od_isub ?_))
local macro_rules | `(tactic| kd_addB) => `(tactic| first
  | (with_reducible refine cd_lenL ?_)
  | (with_reducible refine cd_lenT ?_)
  | (with_reducible refine cd_int ?_)
  | (with_reducible refine cd_intB ?_)
  | (with_reducible refine cd_abs ?_)
  | (with_reducible refine cd_max ?_)
  | (with_reducible refine cd_min ?_)
  | (with_reducible refine ci_bool (by with_unfolding_all rfl) ?_)
  | (with_reducible refine ci_int (by with_unfolding_all rfl) ?_)
  | (with_reducible refine ci_str (by with_unfolding_all rfl) ?_)
  | (with_reducible refine ci_tup (by with_unfolding_all rfl) ?_)
  | (with_reducible refine ci_lst (by with_unfolding_all rfl) ?_)
  | (with_reducible refine ci_dict (by with_unfolding_all rfl) ?_))
local macro_rules | `(tactic| kd_addW) => `(tactic| first
  | refine zs_ret ?_
  | refine zs_if ?_
  | refine zs_set (by ktu_offI) ?_
  | refine zs_append (by ktu_offI) (by rfl) ?_
  | refine zs_expr ?_
  | refine zs_aug (by ktu_offI) (by rfl) ?_
  | refine zs_par (by ktu_offI) (by ktu_offI) (by decide) (by decide +kernel) (by decide +kernel) ?_ (fun env h => by cases env; cases h; rfl)
  | refine zs_stoPut ?_
  | refine zs_asg ?_)
local macro_rules | `(tactic| kcj_in) => `(tactic| first
  | refine zg_name (by ktu_offI) ?_
  | refine jg_tup (by rfl) ?_)
local macro_rules | `(tactic| krn_off) => `(tactic| first
  | refine L2.iteT ?_
  | refine L2.iteF ?_
  | refine ite_dT (by lcg_sub) ?_
  | refine ite_dF (by lcg_sub) ?_
  | refine ite_ndT (by lcg_sub) ?_
  | refine ite_ndF (by lcg_sub) ?_)
local macro_rules | `(tactic| kas_types) => `(tactic| first
  | ((with_reducible show JE _ _ _ _ _); k_offL)
  | ((with_reducible show OpD _ _ _ _ _ _); kct_strs)
  | ((with_reducible show JSs _ _ _ _ _); first | refine zs_one ?_ | refine zs_cons ?_ | refine zs_nil ?_)
  | ((with_reducible show JS _ _ _ _ _); kd_addW)
  | ((with_reducible show JT _ _ _ _ _); k_subL)
  | ((with_reducible show JW _ _ _ _ _); k_clsL)
  | ((with_reducible show IxD _ _ _ _ _); first | refine ixd_tup (by rfl) ?_ | refine ixd_lst (by rfl) ?_)
  | ((with_reducible show UnD _ _ _ _ _); refine ud_neg ?_)
  | ((with_reducible show JA _ _ _ _ _); first | refine ja_nil ?_ | refine ja_cons (fun _ => rfl) ?_)
  | ((with_reducible show isBl _ _); refine isBl_mk ?_)
  | ((with_reducible show CallD _ _ _ _ _); kd_addB)
  | ((with_reducible show CallF _ _ _ _ _); first | refine cf_list ?_ | refine cf_listT ?_)
  | ((with_reducible show JG _ _ _ _ _ _); kcj_in)
  | ((with_reducible show JGs _ _ _ _ _ _); first | refine jgs_nil ?_ | refine jgs_cons ?_)
  | ((with_reducible show (if _ then _ else _ : Prop)); krn_off)
  | ((with_reducible show _ ≤ sizeLine ∧ _); refine And.intro (by first | exact (by decide : _ ≤ sizeLine) | (simp; done) | (simp; decide)) ?_)
  | ((with_reducible show flatD _ ∧ _); refine And.intro (by simp [flatD, flatL]) ?_)
  | ((with_reducible show ∃ c, D.sto _ = D.sto c ∧ _); refine Exists.intro _ (And.intro rfl ?_))
  | ((with_reducible show StoGet _ _ _); first | refine sg_restB (fun r h1 h2 => ?_) | refine sg_left (fun r h1 => ?_) | refine sg_at (fun r h1 h2 => ?_) | refine sg_turn (fun r => ?_) | refine sg_seed (fun r => ?_) | refine sg_cells ?_)
  | lsm_bools)
local macro_rules | `(tactic| kat_tups) => `(tactic| repeat kas_types)
/-! ### raised, add_all -/
inductive cPow : List D → (D → Prop) → EK → Prop
  | mk {P : D → Prop} {E : EK} (a b : Int) (j : Nat) (hj : j ≤ 1000) (ha : Bd 140 a) (hb : Bd 140 b) (k : P (fr (a ^ j, b ^ j))) : cPow [fr (a, b), .int j] P E
theorem Bd.pow {n : Nat} {a : Int} (h : Bd n a) : ∀ j : Nat, Bd (n * j + 1) (a ^ j)
  | 0 => by unfold Bd; simp
  | j + 1 => by
    rw [Int.pow_succ]
    exact ((h.pow j).mul h).mono (by rw [Nat.mul_succ]; omega)
abbrev S_raised : Scp := { N := ["x", "k", "n", "d", "spare"], sc := defScope (top 10), vs := [("x", 0), ("k", 1), ("n", 2), ("d", 3), ("spare", 4)], ss := [("x", 0), ("k", 1), ("n", 2), ("d", 3), ("spare", 4)], gl := ["range"], lv := 1 }
theorem b_raised {U : Env1} (hB : Blt U ["range"]) (G H : Hp) (ds) (P) (E) (h : cPow ds P E) : JSs S_raised (U.cg G H fun _ => E) (defBody (top 10)) (startD S_raised.N ds) { nx := fun _ => P .non, rt := P } := by
  obtain ⟨a, b, j, hj, ha, hb, k⟩ := h
  kat_tups
  refine zs_for rfl (zi_rng1 (by ktu_offL) (by lcg_off) (fun _ => rfl) ?_)
  kat_tups
  refine ⟨(j : Int), rfl, by omega, by omega, fun i δ' => i ≤ j ∧ ∃ s, δ' = [.fz (fr (a, b)), .fz (.int j), .fz (.int (a ^ i)), .fz (.int (b ^ i)), s], ⟨Nat.zero_le _, .no, by rw [Int.pow_zero, Int.pow_zero]; rfl⟩, ?_, ?_⟩
  · intro i hi
    refine turns_of ?_
    rintro δ' ⟨_, s, rfl⟩
    have h1 := ha.pow i
    have h2 := hb.pow i
    have hi' : i < j := by omega
    have hm : 140 * i ≤ 140000 := by omega
    kat_tups
    exact ⟨hi', _, by rw [Int.pow_succ, Int.pow_succ]; rfl⟩
  · rintro δ' ⟨_, s, rfl⟩
    kat_tups
    exact k
abbrev S_lraise : Scp := { N := ["x", "k", "value", "turn"], sc := defScope (top 26), vs := [("x", 0), ("k", 1), ("value", 2), ("turn", 3)], ss := [("x", 0), ("k", 1), ("value", 2), ("turn", 3)], gl := ["range"], lv := 1 }
theorem b_lraise {U : Env1} (hB : Blt U ["range"]) (G H : Hp) (ds) (P) (E) (h : cPow ds P E) : JSs S_lraise (U.cg G H fun _ => E) (defBody (top 26)) (startD S_lraise.N ds) { nx := fun _ => P .non, rt := P } := by
  obtain ⟨a, b, j, hj, ha, hb, k⟩ := h
  kat_tups
  refine zs_for rfl (zi_rng1 (by ktu_offL) (by lcg_off) (fun _ => rfl) ?_)
  kat_tups
  refine ⟨(j : Int), rfl, by omega, by omega, fun i δ' => i ≤ j ∧ ∃ s, δ' = [.fz (fr (a, b)), .fz (.int j), .fz (fr (a ^ i, b ^ i)), s], ⟨Nat.zero_le _, .no, by rw [Int.pow_zero, Int.pow_zero]; rfl⟩, ?_, ?_⟩
  · intro i hi
    refine turns_of ?_
    rintro δ' ⟨_, s, rfl⟩
    have h1 := ha.pow i
    have h2 := hb.pow i
    have hi' : i < j := by omega
    have hm : 140 * i ≤ 140000 := by omega
    kat_tups
    exact ⟨hi', _, by rw [Int.pow_succ, Int.pow_succ]; rfl⟩
  · rintro δ' ⟨_, s, rfl⟩
    kat_tups
    exact k
/-! add_all -/
def sumF (xs : List (Int × Int)) : Int × Int := xs.foldl plusF (0, 1)
inductive cSum : List D → (D → Prop) → EK → Prop
  | mk {P : D → Prop} {E : EK} (xs : List (Int × Int)) (hl : xs.length ≤ 100) (hx : ∀ x ∈ xs, 0 < x.2 ∧ Bd 133 x.1 ∧ Bd 133 x.2) (k : P (fr (sumF xs))) : cSum [.lst (xs.map fr)] P E
theorem foldl_take {α β : Type} {f : β → α → β} {b : β} {xs : List α} {i : Nat} {x : α} (h : xs[i]? = some x) : (xs.take (i + 1)).foldl f b = f ((xs.take i).foldl f b) x := by
  have : xs.take (i + 1) = xs.take i ++ [x] := by
    rw [List.take_succ, h]
    rfl
  rw [this, List.foldl_append]
  rfl
theorem take_get {α : Type} {xs : List α} {i : Nat} {x : α} (h : xs[i]? = some x) : xs.take (i + 1) = xs.take i ++ [x] := by
  rw [List.take_succ, h]
  rfl
theorem plusF_den {x y : Int × Int} (hx : 0 < x.2) (hy : 0 < y.2) : 0 < (plusF x y).2 := by
  unfold plusF
  split
  · exact partF_den (by omega)
  · exact partF_den (Int.ne_of_gt (Int.mul_pos hx hy))
theorem plusF_bd {m : Nat} {x y : Int × Int} (hx : 0 < x.2) (hy : 0 < y.2) (h1 : Bd (134 * m) x.1) (h2 : Bd (133 * m + 1) x.2) (h3 : Bd 133 y.1) (h4 : Bd 133 y.2) : Bd (134 * (m + 1)) (plusF x y).1 ∧ Bd (133 * (m + 1) + 1) (plusF x y).2 := by
  unfold plusF
  split
  · rename_i e
    obtain ⟨a1, a2⟩ := partF_le (n := x.1 + y.1) (d := x.2) (by omega)
    have s1 : Bd (134 * (m + 1)) (x.1 + y.1) := (h1.add h3).mono (by omega)
    have s2 : Bd (133 * (m + 1) + 1) x.2 := h2.mono (by omega)
    exact ⟨Nat.lt_of_le_of_lt a1 s1, Nat.lt_of_le_of_lt a2 s2⟩
  · obtain ⟨a1, a2⟩ := partF_le (n := x.1 * y.2 + y.1 * x.2) (d := x.2 * y.2) (Int.ne_of_gt (Int.mul_pos hx hy))
    have s2 : Bd (133 * (m + 1) + 1) (x.2 * y.2) := (h2.mul h4).mono (by omega)
    have s1 : Bd (134 * (m + 1)) (x.1 * y.2 + y.1 * x.2) := by
      by_cases z : m = 0
      · subst z
        have e1 : x.1 = 0 := by unfold Bd at h1; simp at h1; exact h1
        rw [e1, Int.zero_mul, Int.zero_add]
        exact (h3.mul h2).mono (by omega)
      · exact ((h1.mul h4).add (h3.mul h2)).mono (by omega)
    exact ⟨Nat.lt_of_le_of_lt a1 s1, Nat.lt_of_le_of_lt a2 s2⟩
theorem sumF_ok {xs : List (Int × Int)} (hx : ∀ x ∈ xs, 0 < x.2 ∧ Bd 133 x.1 ∧ Bd 133 x.2) : ∀ i, i ≤ xs.length → 0 < (sumF (xs.take i)).2 ∧ Bd (134 * i) (sumF (xs.take i)).1 ∧ Bd (133 * i + 1) (sumF (xs.take i)).2
  | 0, _ => by
    simp only [List.take_zero]
    exact ⟨by decide, by unfold Bd; decide, by unfold Bd; decide⟩
  | i + 1, hi => by
    obtain ⟨h1, h2, h3⟩ := sumF_ok hx i (by omega)
    have hg := List.getElem?_eq_getElem (show i < xs.length by omega)
    have e : sumF (xs.take (i + 1)) = plusF (sumF (xs.take i)) xs[i] := foldl_take hg
    obtain ⟨y1, y2, y3⟩ := hx xs[i] (List.getElem_mem _)
    rw [e]
    exact ⟨plusF_den h1 y1, plusF_bd h1 y1 h2 h3 y2 y3⟩
abbrev S_addall : Scp := { N := ["xs", "total", "x"], sc := defScope (top 13), vs := [("xs", 0), ("total", 1), ("x", 2)], ss := [("xs", 0), ("total", 1), ("x", 2)], gl := ["plus"], lv := 4 }
theorem atD_map {xs : List (Int × Int)} {i : Nat} {x : Int × Int} (h : xs[i]? = some x) : atD (xs.map fr) i = fr x := by
  unfold atD
  rw [List.getElem?_map, h]
  rfl
theorem b_addall {U : Env1} (F1 : U.Def "plus" 4 [] (cBin plusF okT)) (G H : Hp) (ds) (P) (E) (h : cSum ds P E) : JSs S_addall (U.cg G H fun _ => E) (defBody (top 13)) (startD S_addall.N ds) { nx := fun _ => P .non, rt := P } := by
  obtain ⟨xs, hl, hx, k⟩ := h
  kat_tups
  refine zs_for rfl (ji_list ?_)
  kat_tups
  refine ⟨_, rfl, fun i δ' => ∃ s, δ' = [.fz (.lst (xs.map fr)), .fz (fr (sumF (xs.take i))), s], ⟨_, rfl⟩, ?_, ?_⟩
  · intro i hi
    rw [List.length_map] at hi
    have hg := List.getElem?_eq_getElem hi
    rw [atD_map hg]
    refine turns_of ?_
    rintro δ' ⟨s, rfl⟩
    obtain ⟨h1, h2, h3⟩ := sumF_ok hx i (by omega)
    obtain ⟨y1, y2, y3⟩ := hx xs[i] (List.getElem_mem _)
    kat_tups
    refine cBin.mk (134 * i + 1) 133 _ _ _ _ h1 y1 trivial (h2.mono (by omega)) (h3.mono (by omega)) y2 y3 (by omega) ?_
    kat_tups
    exact ⟨_, by rw [show sumF (xs.take (i + 1)) = plusF (sumF (xs.take i)) xs[i] from foldl_take hg]; rfl⟩
  · rintro δ' ⟨s, rfl⟩
    kat_tups
    rw [List.length_map, List.take_length]
    exact k
end Z
set_option Elab.async false
set_option linter.all false
set_option maxRecDepth 100000
set_option maxHeartbeats 4000000
namespace Z
open PySem L2
local macro_rules | `(tactic| lsm_bools) => `(tactic| fail)
local macro_rules | `(tactic| ktu_offI) => `(tactic| with_reducible (first | exact Has.head | (apply Has.tail; ktu_offI)))
local macro_rules | `(tactic| ktu_offL) => `(tactic| with_reducible (first | exact HasG.head | (apply HasG.tail; ktu_offL)))
local macro_rules | `(tactic| lcg_off) => `(tactic| exact Blt.h (by assumption) _ (by ktu_offL))
local macro_rules | `(tactic| lcg_sub) => `(tactic| first | assumption | omega | decide +kernel)
local macro_rules | `(tactic| lcg_src) => `(tactic| first | exact Bd.ok (n := 3000) (m := 3000) (by unfold Bd; decide +kernel) (by unfold Bd; decide +kernel) (by decide) | exact mulok_r (by omega) | exact mulok_l (by omega) | exact Bd.ok (by mem_news) (by mem_news) (by omega))
local macro_rules | `(tactic| mem_news) => `(tactic| with_reducible (first | assumption | exact Bd.neg (by mem_news) | exact Bd.mul (by mem_news) (by mem_news) | exact Bd.add (by mem_news) (by mem_news) | exact Bd.sub (by mem_news) (by mem_news)))
local macro_rules | `(tactic| nest_cls) => `(tactic| first | exact PyProof.noPylong_small (by decide) | exact nopy_i (by mem_news) (by omega) | exact nopy_j (by mem_news) (by omega))
local macro_rules | `(tactic| k_offL) => `(tactic| first
  | (with_reducible show JE _ _ (Expr.Name _ _) _ _
     first
     | refine ze_name (by ktu_offI) (by rfl) ?_
     | refine zt_int (by ktu_offL) (by lcg_off) ?_
     | refine zt_bool (by ktu_offL) (by lcg_off) ?_
     | refine zt_str (by ktu_offL) (by lcg_off) ?_
     | refine zt_tuple (by ktu_offL) (by lcg_off) ?_
     | refine zt_list (by ktu_offL) (by lcg_off) ?_
     | refine zt_dict (by ktu_offL) (by lcg_off) ?_)
  | (with_reducible show JE _ _ (Expr.Constant _ _ _) _ _
     first | refine je_int ?_ | refine je_str ?_ | refine je_bl ?_ | refine je_non ?_)
  | (with_reducible show JE _ _ (Expr.Subscript _ _ _) _ _
     first
     | refine je_stoGet ?_
     | refine je_ix (fun _ _ => rfl) ?_)
  | (with_reducible show JE _ _ (Expr.BinOp _ _ _ _) _ _
     refine je_bin ?_)
  | (with_reducible show JE _ _ (Expr.Call _ _ _ _) _ _
     first
     | refine ze_own (by ktu_offI) (by rfl) ?_
     | refine ze_call (by assumption) (by first | decide | exact Nat.le_refl _) (by ktu_offL) ?_
     | refine zb_len (by ktu_offL) (by lcg_off) ?_
     | refine zb_int (by ktu_offL) (by lcg_off) ?_
     | refine zb_abs (by ktu_offL) (by lcg_off) ?_
     | refine zb_isi (by ktu_offL) (by lcg_off) ?_
     | refine zb_max (by ktu_offL) (by lcg_off) ?_
     | refine zb_min (by ktu_offL) (by lcg_off) ?_
     | refine zb_list (by ktu_offL) (by lcg_off) ?_)
  | (with_reducible show JE _ _ (Expr.Tuple _ _ _) _ _
     refine je_tup ?_)
  | (with_reducible show JE _ _ (Expr.UnaryOp _ _ _) _ _
     first | refine je_not ?_ | refine je_un ?_)
  | (with_reducible show JE _ _ (Expr.Compare _ _ _ _) _ _
     first | refine je_cmp (nomark _) ?_ | refine je_chain (by with_unfolding_all rfl) ?_)
  | (with_reducible show JE _ _ (Expr.BoolOp _ _ _) _ _
     first | refine je_one ?_ | refine je_and ?_ | refine je_or ?_)
  | (with_reducible show JE _ _ (Expr.IfExp _ _ _ _) _ _
     refine je_if ?_)
  | (with_reducible show JE _ _ (Expr.List _ _) _ _
     refine jf_je (jf_lst ?_)))
local macro_rules | `(tactic| k_subL) => `(tactic| first
  | ((with_reducible show JT _ _ (Expr.Compare _ _ _ _) _ _); first | refine jt_cmp (nomark _) ?_ | refine jt_chain (by with_unfolding_all rfl) ?_)
  | ((with_reducible show JT _ _ (Expr.BoolOp _ _ _) _ _); refine jw_t ?_)
  | ((with_reducible show JT _ _ (Expr.UnaryOp _ _ _) _ _); refine jt_not ?_)
  | refine jt_val ?_ (fun _ _ => rfl))
local macro_rules | `(tactic| k_clsL) => `(tactic| first
  | refine jw_and1 ?_
  | refine jw_or1 ?_
  | refine jw_and ?_
  | refine jw_or ?_)
local macro_rules | `(tactic| kct_strs) => `(tactic| first
  | (with_reducible refine od_add ?_)
  | (with_reducible refine od_sub ?_)
  | ((with_reducible show OpD _ _ (binaryOp Operator.Mult) _ _ _); refine od_mul (by lcg_src) ?_)
  | ((with_reducible show OpD _ _ (binaryOp Operator.Mod) _ _ _); refine od_mod (by lcg_sub) ?_)
  | ((with_reducible show OpD _ _ (binaryOp Operator.FloorDiv) _ _ _); refine od_fdiv (by lcg_sub) (by nest_cls) ?_)
  | ((with_reducible show OpD _ _ (binaryOp Operator.Pow) _ _ _); first | (with_reducible refine od_p10_3 ?_) | (with_reducible refine od_p10_6 ?_) | (with_reducible refine od_p10_9 ?_) | (with_reducible refine od_p10_12 ?_) | (with_reducible refine od_p10_18 ?_) | (with_reducible refine od_p10_19 ?_) | (with_reducible refine od_p10_20 ?_) | (with_reducible refine od_p10_30 ?_) | (with_reducible refine od_p10_39 ?_) | (with_reducible refine od_p10_40 ?_) | (with_reducible refine od_p10_64 ?_))
  | (with_reducible refine od_eq ?_)
  | (with_reducible refine od_ne ?_)
  | (with_reducible refine od_lt ?_)
  | (with_reducible refine od_le ?_)
  | (with_reducible refine od_gt ?_)
  | (with_reducible refine od_ge ?_)
  | (with_reducible refine od_eqS ?_)
  | (with_reducible refine od_neS ?_)
  | (with_reducible refine od_eqB ?_)
  | (with_reducible refine od_isN ?_)
  | (with_reducible refine od_notN ?_)
  | ((with_reducible show OpD _ _ (binaryOp Operator.Add) (D.lst _) (D.lst _) _); refine of_od (of_cat (by lcg_sub) ?_))
  | (with_reducible refine od_iadd ?_)
  | (with_reducible refine od_isub ?_))
local macro_rules | `(tactic| kd_addB) => `(tactic| first
  | (with_reducible refine cd_lenL ?_)
  | (with_reducible refine cd_lenT ?_)
  | (with_reducible refine cd_int ?_)
  | (with_reducible refine cd_intB ?_)
  | (with_reducible refine cd_abs ?_)
  | (with_reducible refine cd_max ?_)
  | (with_reducible refine cd_min ?_)
  | (with_reducible refine ci_bool (by with_unfolding_all rfl) ?_)
  | (with_reducible refine ci_int (by with_unfolding_all rfl) ?_)
  | (with_reducible refine ci_str (by with_unfolding_all rfl) ?_)
  | (with_reducible refine ci_tup (by with_unfolding_all rfl) ?_)
  | (with_reducible refine ci_lst (by with_unfolding_all rfl) ?_)
  | (with_reducible refine ci_dict (by with_unfolding_all rfl) ?_))
local macro_rules | `(tactic| kd_addW) => `(tactic| first
  | refine zs_ret ?_
  | refine zs_if ?_
  | refine zs_set (by ktu_offI) ?_
  | refine zs_append (by ktu_offI) (by rfl) ?_
  | refine zs_expr ?_
  | refine zs_aug (by ktu_offI) (by rfl) ?_
  | refine zs_par (by ktu_offI) (by ktu_offI) (by decide) (by decide +kernel) (by decide +kernel) ?_ (fun env h => by cases env; cases h; rfl)
  | refine zs_stoPut ?_
  | refine zs_asg ?_)
local macro_rules | `(tactic| kcj_in) => `(tactic| first
  | refine zg_name (by ktu_offI) ?_
  | refine jg_tup (by rfl) ?_)
local macro_rules | `(tactic| krn_off) => `(tactic| first
  | refine L2.iteT ?_
  | refine L2.iteF ?_
  | refine ite_dT (by lcg_sub) ?_
  | refine ite_dF (by lcg_sub) ?_
  | refine ite_ndT (by lcg_sub) ?_
  | refine ite_ndF (by lcg_sub) ?_)
local macro_rules | `(tactic| kas_types) => `(tactic| first
  | ((with_reducible show JE _ _ _ _ _); k_offL)
  | ((with_reducible show OpD _ _ _ _ _ _); kct_strs)
  | ((with_reducible show JSs _ _ _ _ _); first | refine zs_one ?_ | refine zs_cons ?_ | refine zs_nil ?_)
  | ((with_reducible show JS _ _ _ _ _); kd_addW)
  | ((with_reducible show JT _ _ _ _ _); k_subL)
  | ((with_reducible show JW _ _ _ _ _); k_clsL)
  | ((with_reducible show IxD _ _ _ _ _); first | refine ixd_tup (by rfl) ?_ | refine ixd_lst (by rfl) ?_)
  | ((with_reducible show UnD _ _ _ _ _); refine ud_neg ?_)
  | ((with_reducible show JA _ _ _ _ _); first | refine ja_nil ?_ | refine ja_cons (fun _ => rfl) ?_)
  | ((with_reducible show isBl _ _); refine isBl_mk ?_)
  | ((with_reducible show CallD _ _ _ _ _); kd_addB)
  | ((with_reducible show CallF _ _ _ _ _); first | refine cf_list ?_ | refine cf_listT ?_)
  | ((with_reducible show JG _ _ _ _ _ _); kcj_in)
  | ((with_reducible show JGs _ _ _ _ _ _); first | refine jgs_nil ?_ | refine jgs_cons ?_)
  | ((with_reducible show (if _ then _ else _ : Prop)); krn_off)
  | ((with_reducible show _ ≤ sizeLine ∧ _); refine And.intro (by first | exact (by decide : _ ≤ sizeLine) | (simp; done) | (simp; decide)) ?_)
  | ((with_reducible show flatD _ ∧ _); refine And.intro (by simp [flatD, flatL]) ?_)
  | ((with_reducible show ∃ c, D.sto _ = D.sto c ∧ _); refine Exists.intro _ (And.intro rfl ?_))
  | ((with_reducible show StoGet _ _ _); first | refine sg_restB (fun r h1 h2 => ?_) | refine sg_left (fun r h1 => ?_) | refine sg_at (fun r h1 h2 => ?_) | refine sg_turn (fun r => ?_) | refine sg_seed (fun r => ?_) | refine sg_cells ?_)
  | lsm_bools)
local macro_rules | `(tactic| kat_tups) => `(tactic| repeat kas_types)
/-! ### the drawing -/
theorem atI_some {α : Type} {ds : List α} {k : Int} (h1 : -(ds.length : Int) ≤ k) (h2 : k < ds.length) : ∃ d ∈ ds, L2.atI ds k = some d := by
  unfold L2.atI ixN
  by_cases h : 0 ≤ k
  · rw [if_pos h, if_pos h2]
    have hl : k.toNat < ds.length := by omega
    exact ⟨ds[k.toNat], List.getElem_mem _, by simp [hl]⟩
  · rw [if_neg h, if_pos h1]
    have hl : (k + ds.length).toNat < ds.length := by omega
    exact ⟨ds[(k + ds.length).toNat], List.getElem_mem _, by simp [hl]⟩
theorem atI_ints {cells : List Int} {k : Int} (h1 : -(cells.length : Int) ≤ k) (h2 : k < cells.length) : ∃ c, L2.atI (cells.map D.int) k = some (.int c) := by
  obtain ⟨d, hd, e⟩ := atI_some (ds := cells.map D.int) (k := k) (by simpa using h1) (by simpa using h2)
  obtain ⟨c, _, rfl⟩ := List.mem_map.mp hd
  exact ⟨c, e⟩
/-! _law_mixed -/
inductive cMixed : List D → (D → Prop) → EK → Prop
  | mk {P : D → Prop} {E : EK} (number turn many : Int) (hm : 1 ≤ many) (k : ∀ v : Int, 0 ≤ v → v < many → P (.int v)) : cMixed [.int number, .int turn, .int many] P E
abbrev S_mixed : Scp := { N := ["number", "turn", "many", "first", "value", "size", "k", "again"], sc := defScope (top 15), vs := [("number", 0), ("turn", 1), ("many", 2), ("first", 3), ("value", 4), ("size", 5), ("k", 6), ("again", 7)], ss := [("number", 0), ("turn", 1), ("many", 2), ("first", 3), ("value", 4), ("size", 5), ("k", 6), ("again", 7)], gl := ["int", "range"], lv := 1 }
theorem b_mixed {U : Env1} (hB : Blt U ["range", "int"]) (G H : Hp) (ds) (P) (E) (h : cMixed ds P E) : JSs S_mixed (U.cg G H fun _ => E) (defBody (top 15)) (startD S_mixed.N ds) { nx := fun _ => P .non, rt := P } := by
  obtain ⟨number, turn, many, hm, k⟩ := h
  kat_tups
  refine zs_for rfl (zi_rng1 (by ktu_offL) (by lcg_off) (fun _ => rfl) ?_)
  kat_tups
  refine ⟨24, rfl, by omega, by omega, fun i δ' => ∃ f v s : Int, ∃ sk sa : Sl, 0 ≤ f ∧ f < 2147483648 ∧ δ' = [.fz (.int number), .fz (.int turn), .fz (.int many), .fz (.int f), .fz (.int v), .fz (.int s), sk, sa], ⟨_, 0, 1, .no, .no, ?_, ?_, rfl⟩, ?_, ?_⟩
  · exact Int.emod_nonneg _ (by decide)
  · have := Int.emod_lt_of_pos (number % 2147483647 * 48271 + turn * 69621 + 101) (show (0 : Int) < 2147483647 by decide)
    omega
  · intro i hi
    refine turns_of ?_
    rintro δ' ⟨f, v, s, sk, sa, f1, f2, rfl⟩
    kat_tups
    refine ite_d (fun h1 => ?_) (fun h1 => ?_)
    · kat_tups
      refine ⟨_, _, _, _, _, Int.emod_nonneg _ (by decide), ?_, rfl⟩
      have := Int.emod_lt_of_pos (f * f + f / 5 + turn * 16807 + (0 + (i : Int)) * 7919 + 13) (show (0 : Int) < 2147483629 by decide)
      omega
    · kat_tups
      exact ⟨f, v, s, _, _, f1, f2, rfl⟩
  · rintro δ' ⟨f, v, s, sk, sa, f1, f2, rfl⟩
    kat_tups
    exact k _ (Int.emod_nonneg _ (by omega)) (Int.emod_lt_of_pos _ (by omega))
/-! _law_draws -/
inductive cDraws : List D → (D → Prop) → EK → Prop
  | mk {P : D → Prop} {E : EK} (ns : List Int) (hl : ns.length ≤ 63) (k : P (.sto ns)) : cDraws [.scr ns] P E
abbrev S_draws : Scp := { N := ["script", "seed", "cell"], sc := defScope (top 16), vs := [("script", 0), ("seed", 1), ("cell", 2)], ss := [("script", 0), ("seed", 1), ("cell", 2)], gl := ["int", "len", "list"], lv := 1 }
theorem b_draws {U : Env1} (hB : Blt U ["int", "len", "list"]) (G H : Hp) (ds) (P) (E) (h : cDraws ds P E) : JSs S_draws (U.cg G H fun _ => E) (defBody (top 16)) (startD S_draws.N ds) { nx := fun _ => P .non, rt := P } := by
  obtain ⟨ns, hl, k⟩ := h
  kat_tups
  refine cd_lenScr ?_
  kat_tups
  refine zs_for rfl (ji_scr ?_)
  kat_tups
  refine ⟨ns, rfl, fun i δ' => ∃ f : Int, ∃ sk : Sl, δ' = [.fz (.scr ns), .fz (.int f), sk], ⟨_, .no, rfl⟩, ?_, ?_⟩
  · intro i hi
    refine turns_of ?_
    rintro δ' ⟨f, sk, rfl⟩
    kat_tups
    exact ⟨_, _, rfl⟩
  · rintro δ' ⟨f, sk, rfl⟩
    kat_tups
    refine je_stoNew ?_
    kat_tups
    refine cf_listScr ⟨ns, rfl, hl, ?_⟩
    kat_tups
    exact ⟨_, rfl, k⟩
end Z
set_option Elab.async false
set_option linter.all false
set_option maxRecDepth 100000
set_option maxHeartbeats 4000000
namespace Z
open PySem L2
local macro_rules | `(tactic| lsm_bools) => `(tactic| fail)
local macro_rules | `(tactic| ktu_offI) => `(tactic| with_reducible (first | exact Has.head | (apply Has.tail; ktu_offI)))
local macro_rules | `(tactic| ktu_offL) => `(tactic| with_reducible (first | exact HasG.head | (apply HasG.tail; ktu_offL)))
local macro_rules | `(tactic| lcg_off) => `(tactic| exact Blt.h (by assumption) _ (by ktu_offL))
local macro_rules | `(tactic| lcg_sub) => `(tactic| first | assumption | omega | decide +kernel)
local macro_rules | `(tactic| lcg_src) => `(tactic| first | exact Bd.ok (n := 3000) (m := 3000) (by unfold Bd; decide +kernel) (by unfold Bd; decide +kernel) (by decide) | exact mulok_r (by omega) | exact mulok_l (by omega) | exact Bd.ok (by mem_news) (by mem_news) (by omega))
local macro_rules | `(tactic| mem_news) => `(tactic| with_reducible (first | assumption | exact Bd.neg (by mem_news) | exact Bd.mul (by mem_news) (by mem_news) | exact Bd.add (by mem_news) (by mem_news) | exact Bd.sub (by mem_news) (by mem_news)))
local macro_rules | `(tactic| nest_cls) => `(tactic| first | exact PyProof.noPylong_small (by decide) | exact nopy_i (by mem_news) (by omega) | exact nopy_j (by mem_news) (by omega))
local macro_rules | `(tactic| k_offL) => `(tactic| first
  | (with_reducible show JE _ _ (Expr.Name _ _) _ _
     first
     | refine ze_name (by ktu_offI) (by rfl) ?_
     | refine zt_int (by ktu_offL) (by lcg_off) ?_
     | refine zt_bool (by ktu_offL) (by lcg_off) ?_
     | refine zt_str (by ktu_offL) (by lcg_off) ?_
     | refine zt_tuple (by ktu_offL) (by lcg_off) ?_
     | refine zt_list (by ktu_offL) (by lcg_off) ?_
     | refine zt_dict (by ktu_offL) (by lcg_off) ?_)
  | (with_reducible show JE _ _ (Expr.Constant _ _ _) _ _
     first | refine je_int ?_ | refine je_str ?_ | refine je_bl ?_ | refine je_non ?_)
  | (with_reducible show JE _ _ (Expr.Subscript _ _ _) _ _
     first
     | refine je_stoGet ?_
     | refine je_ix (fun _ _ => rfl) ?_)
  | (with_reducible show JE _ _ (Expr.BinOp _ _ _ _) _ _
     refine je_bin ?_)
  | (with_reducible show JE _ _ (Expr.Call _ _ _ _) _ _
     first
     | refine ze_own (by ktu_offI) (by rfl) ?_
     | refine ze_call (by assumption) (by first | decide | exact Nat.le_refl _) (by ktu_offL) ?_
     | refine zb_len (by ktu_offL) (by lcg_off) ?_
     | refine zb_int (by ktu_offL) (by lcg_off) ?_
     | refine zb_abs (by ktu_offL) (by lcg_off) ?_
     | refine zb_isi (by ktu_offL) (by lcg_off) ?_
     | refine zb_max (by ktu_offL) (by lcg_off) ?_
     | refine zb_min (by ktu_offL) (by lcg_off) ?_
     | refine zb_list (by ktu_offL) (by lcg_off) ?_)
  | (with_reducible show JE _ _ (Expr.Tuple _ _ _) _ _
     refine je_tup ?_)
  | (with_reducible show JE _ _ (Expr.UnaryOp _ _ _) _ _
     first | refine je_not ?_ | refine je_un ?_)
  | (with_reducible show JE _ _ (Expr.Compare _ _ _ _) _ _
     first | refine je_cmp (nomark _) ?_ | refine je_chain (by with_unfolding_all rfl) ?_)
  | (with_reducible show JE _ _ (Expr.BoolOp _ _ _) _ _
     first | refine je_one ?_ | refine je_and ?_ | refine je_or ?_)
  | (with_reducible show JE _ _ (Expr.IfExp _ _ _ _) _ _
     refine je_if ?_)
  | (with_reducible show JE _ _ (Expr.List _ _) _ _
     refine jf_je (jf_lst ?_)))
local macro_rules | `(tactic| k_subL) => `(tactic| first
  | ((with_reducible show JT _ _ (Expr.Compare _ _ _ _) _ _); first | refine jt_cmp (nomark _) ?_ | refine jt_chain (by with_unfolding_all rfl) ?_)
  | ((with_reducible show JT _ _ (Expr.BoolOp _ _ _) _ _); refine jw_t ?_)
  | ((with_reducible show JT _ _ (Expr.UnaryOp _ _ _) _ _); refine jt_not ?_)
  | refine jt_val ?_ (fun _ _ => rfl))
local macro_rules | `(tactic| k_clsL) => `(tactic| first
  | refine jw_and1 ?_
  | refine jw_or1 ?_
  | refine jw_and ?_
  | refine jw_or ?_)
local macro_rules | `(tactic| kct_strs) => `(tactic| first
  | (with_reducible refine od_add ?_)
  | (with_reducible refine od_sub ?_)
  | ((with_reducible show OpD _ _ (binaryOp Operator.Mult) _ _ _); refine od_mul (by lcg_src) ?_)
  | ((with_reducible show OpD _ _ (binaryOp Operator.Mod) _ _ _); refine od_mod (by lcg_sub) ?_)
  | ((with_reducible show OpD _ _ (binaryOp Operator.FloorDiv) _ _ _); refine od_fdiv (by lcg_sub) (by nest_cls) ?_)
  | ((with_reducible show OpD _ _ (binaryOp Operator.Pow) _ _ _); first | (with_reducible refine od_p10_3 ?_) | (with_reducible refine od_p10_6 ?_) | (with_reducible refine od_p10_9 ?_) | (with_reducible refine od_p10_12 ?_) | (with_reducible refine od_p10_18 ?_) | (with_reducible refine od_p10_19 ?_) | (with_reducible refine od_p10_20 ?_) | (with_reducible refine od_p10_30 ?_) | (with_reducible refine od_p10_39 ?_) | (with_reducible refine od_p10_40 ?_) | (with_reducible refine od_p10_64 ?_))
  | (with_reducible refine od_eq ?_)
  | (with_reducible refine od_ne ?_)
  | (with_reducible refine od_lt ?_)
  | (with_reducible refine od_le ?_)
  | (with_reducible refine od_gt ?_)
  | (with_reducible refine od_ge ?_)
  | (with_reducible refine od_eqS ?_)
  | (with_reducible refine od_neS ?_)
  | (with_reducible refine od_eqB ?_)
  | (with_reducible refine od_isN ?_)
  | (with_reducible refine od_notN ?_)
  | ((with_reducible show OpD _ _ (binaryOp Operator.Add) (D.lst _) (D.lst _) _); refine of_od (of_cat (by lcg_sub) ?_))
  | (with_reducible refine od_iadd ?_)
  | (with_reducible refine od_isub ?_))
local macro_rules | `(tactic| kd_addB) => `(tactic| first
  | (with_reducible refine cd_lenL ?_)
  | (with_reducible refine cd_lenT ?_)
  | (with_reducible refine cd_int ?_)
  | (with_reducible refine cd_intB ?_)
  | (with_reducible refine cd_abs ?_)
  | (with_reducible refine cd_max ?_)
  | (with_reducible refine cd_min ?_)
  | (with_reducible refine ci_bool (by with_unfolding_all rfl) ?_)
  | (with_reducible refine ci_int (by with_unfolding_all rfl) ?_)
  | (with_reducible refine ci_str (by with_unfolding_all rfl) ?_)
  | (with_reducible refine ci_tup (by with_unfolding_all rfl) ?_)
  | (with_reducible refine ci_lst (by with_unfolding_all rfl) ?_)
  | (with_reducible refine ci_dict (by with_unfolding_all rfl) ?_))
local macro_rules | `(tactic| kd_addW) => `(tactic| first
  | refine zs_ret ?_
  | refine zs_if ?_
  | refine zs_set (by ktu_offI) ?_
  | refine zs_append (by ktu_offI) (by rfl) ?_
  | refine zs_expr ?_
  | refine zs_aug (by ktu_offI) (by rfl) ?_
  | refine zs_par (by ktu_offI) (by ktu_offI) (by decide) (by decide +kernel) (by decide +kernel) ?_ (fun env h => by cases env; cases h; rfl)
  | refine zs_stoPut ?_
  | refine zs_asg ?_)
local macro_rules | `(tactic| kcj_in) => `(tactic| first
  | refine zg_name (by ktu_offI) ?_
  | refine jg_tup (by rfl) ?_)
local macro_rules | `(tactic| krn_off) => `(tactic| first
  | refine L2.iteT ?_
  | refine L2.iteF ?_
  | refine ite_dT (by lcg_sub) ?_
  | refine ite_dF (by lcg_sub) ?_
  | refine ite_ndT (by lcg_sub) ?_
  | refine ite_ndF (by lcg_sub) ?_)
local macro_rules | `(tactic| kas_types) => `(tactic| first
  | ((with_reducible show JE _ _ _ _ _); k_offL)
  | ((with_reducible show OpD _ _ _ _ _ _); kct_strs)
  | ((with_reducible show JSs _ _ _ _ _); first | refine zs_one ?_ | refine zs_cons ?_ | refine zs_nil ?_)
  | ((with_reducible show JS _ _ _ _ _); kd_addW)
  | ((with_reducible show JT _ _ _ _ _); k_subL)
  | ((with_reducible show JW _ _ _ _ _); k_clsL)
  | ((with_reducible show IxD _ _ _ _ _); first | refine ixd_tup (by rfl) ?_ | refine ixd_lst (by rfl) ?_)
  | ((with_reducible show UnD _ _ _ _ _); refine ud_neg ?_)
  | ((with_reducible show JA _ _ _ _ _); first | refine ja_nil ?_ | refine ja_cons (fun _ => rfl) ?_)
  | ((with_reducible show isBl _ _); refine isBl_mk ?_)
  | ((with_reducible show CallD _ _ _ _ _); kd_addB)
  | ((with_reducible show CallF _ _ _ _ _); first | refine cf_list ?_ | refine cf_listT ?_)
  | ((with_reducible show JG _ _ _ _ _ _); kcj_in)
  | ((with_reducible show JGs _ _ _ _ _ _); first | refine jgs_nil ?_ | refine jgs_cons ?_)
  | ((with_reducible show (if _ then _ else _ : Prop)); krn_off)
  | ((with_reducible show _ ≤ sizeLine ∧ _); refine And.intro (by first | exact (by decide : _ ≤ sizeLine) | (simp; done) | (simp; decide)) ?_)
  | ((with_reducible show flatD _ ∧ _); refine And.intro (by simp [flatD, flatL]) ?_)
  | ((with_reducible show ∃ c, D.sto _ = D.sto c ∧ _); refine Exists.intro _ (And.intro rfl ?_))
  | ((with_reducible show StoGet _ _ _); first | refine sg_restB (fun r h1 h2 => ?_) | refine sg_left (fun r h1 => ?_) | refine sg_at (fun r h1 h2 => ?_) | refine sg_turn (fun r => ?_) | refine sg_seed (fun r => ?_) | refine sg_cells ?_)
  | lsm_bools)
local macro_rules | `(tactic| kat_tups) => `(tactic| repeat kas_types)
/-! _law_opened -/
theorem bd_mod {n : Nat} {c w : Int} (h0 : 0 < w) (h : Bd n w) : Bd n (c % w) := by
  have h1 := Int.emod_nonneg c (show w ≠ 0 by omega)
  have h2 := Int.emod_lt_of_pos c h0
  exact h.le (by omega)
theorem bd_div {n : Nat} {c w : Int} (h : Bd n c) : Bd n (c / w) := h.le (Int.natAbs_ediv_le_natAbs _ _)
inductive cOpened : List D → (D → Prop) → EK → Prop
  | mk {P : D → Prop} {E : EK} (cells : List Int) (hl : cells.length ≤ 63) (k : P .non) : cOpened [.sto cells] P E
abbrev S_opened : Scp := { N := ["store", "wide", "cells", "k", "cell"], sc := defScope (top 17), vs := [("store", 0), ("wide", 1), ("cells", 2), ("k", 3), ("cell", 4)], ss := [("store", 0), ("wide", 1), ("cells", 2), ("k", 3), ("cell", 4)], gl := ["int", "len", "range"], lv := 1 }
theorem b_opened {U : Env1} (hB : Blt U ["int", "len", "range"]) (G H : Hp) (ds) (P) (E) (h : cOpened ds P E) : JSs S_opened (U.cg G H fun _ => E) (defBody (top 17)) (startD S_opened.N ds) { nx := fun _ => P .non, rt := P } := by
  obtain ⟨cells, hl, k⟩ := h
  kat_tups
  refine zs_for rfl (zi_rng2 (by ktu_offL) (by lcg_off) (fun _ => rfl) (fun _ => rfl) ?_)
  kat_tups
  rename_i at0 a0 a1
  rw [List.length_map]
  refine ⟨at0, cells.length, rfl, rfl, by omega, fun i δ' => ∃ sk sc : Sl, δ' = [.fz (.sto cells), .fz (.int _), .fz (.lst (cells.map D.int)), sk, sc], ⟨.no, .no, rfl⟩, ?_, ?_⟩
  · intro i hi
    refine turns_of ?_
    rintro δ' ⟨sk, sc, rfl⟩
    kat_tups
    rename_i r0 _ _
    refine ite_d (fun h1 => ?_) (fun h1 => ?_)
    · kat_tups
      rename_i l0 _
      refine ite_d (fun h2 => ?_) (fun h2 => ?_)
      · kat_tups
        obtain ⟨c, hc⟩ := atI_ints (cells := cells) (k := at0 + i) (by omega) (by omega)
        refine ixd_lst hc ?_
        kat_tups
        refine ⟨spp_at (by omega) (by omega), ?_⟩
        kat_tups
        refine ite_d (fun h3 => ?_) (fun h3 => ?_)
        · kat_tups
          refine ⟨spp_left fun _ => ?_, ?_⟩
          · intro z
            subst z
            simp at hi
            omega
          · kat_tups
            exact ⟨_, _, rfl⟩
        · kat_tups
          refine ⟨spp_restB (Int.emod_nonneg _ (by decide +kernel)) (bd_mod (by decide +kernel) (by unfold Bd; decide +kernel)), ?_⟩
          kat_tups
          exact ⟨_, _, rfl⟩
      · kat_tups
        exact ⟨_, _, rfl⟩
    · kat_tups
      exact ⟨_, _, rfl⟩
  · rintro δ' ⟨sk, sc, rfl⟩
    kat_tups
    exact k
end Z
set_option Elab.async false
set_option linter.all false
set_option maxRecDepth 100000
set_option maxHeartbeats 4000000
namespace Z
open PySem L2
local macro_rules | `(tactic| lsm_bools) => `(tactic| fail)
local macro_rules | `(tactic| ktu_offI) => `(tactic| with_reducible (first | exact Has.head | (apply Has.tail; ktu_offI)))
local macro_rules | `(tactic| ktu_offL) => `(tactic| with_reducible (first | exact HasG.head | (apply HasG.tail; ktu_offL)))
local macro_rules | `(tactic| lcg_off) => `(tactic| exact Blt.h (by assumption) _ (by ktu_offL))
local macro_rules | `(tactic| lcg_sub) => `(tactic| first | assumption | omega | decide +kernel)
local macro_rules | `(tactic| lcg_src) => `(tactic| first | exact Bd.ok (n := 3000) (m := 3000) (by unfold Bd; decide +kernel) (by unfold Bd; decide +kernel) (by decide) | exact mulok_r (by omega) | exact mulok_l (by omega) | exact Bd.ok (by mem_news) (by mem_news) (by omega))
local macro_rules | `(tactic| mem_news) => `(tactic| with_reducible (first | assumption | exact Bd.neg (by mem_news) | exact Bd.mul (by mem_news) (by mem_news) | exact Bd.add (by mem_news) (by mem_news) | exact Bd.sub (by mem_news) (by mem_news)))
local macro_rules | `(tactic| nest_cls) => `(tactic| first | exact PyProof.noPylong_small (by decide) | exact nopy_i (by mem_news) (by omega) | exact nopy_j (by mem_news) (by omega))
local macro_rules | `(tactic| k_offL) => `(tactic| first
  | (with_reducible show JE _ _ (Expr.Name _ _) _ _
     first
     | refine ze_name (by ktu_offI) (by rfl) ?_
     | refine zt_int (by ktu_offL) (by lcg_off) ?_
     | refine zt_bool (by ktu_offL) (by lcg_off) ?_
     | refine zt_str (by ktu_offL) (by lcg_off) ?_
     | refine zt_tuple (by ktu_offL) (by lcg_off) ?_
     | refine zt_list (by ktu_offL) (by lcg_off) ?_
     | refine zt_dict (by ktu_offL) (by lcg_off) ?_)
  | (with_reducible show JE _ _ (Expr.Constant _ _ _) _ _
     first | refine je_int ?_ | refine je_str ?_ | refine je_bl ?_ | refine je_non ?_)
  | (with_reducible show JE _ _ (Expr.Subscript _ _ _) _ _
     first
     | refine je_stoGet ?_
     | refine je_ix (fun _ _ => rfl) ?_)
  | (with_reducible show JE _ _ (Expr.BinOp _ _ _ _) _ _
     refine je_bin ?_)
  | (with_reducible show JE _ _ (Expr.Call _ _ _ _) _ _
     first
     | refine ze_own (by ktu_offI) (by rfl) ?_
     | refine ze_call (by assumption) (by first | decide | exact Nat.le_refl _) (by ktu_offL) ?_
     | refine zb_len (by ktu_offL) (by lcg_off) ?_
     | refine zb_int (by ktu_offL) (by lcg_off) ?_
     | refine zb_abs (by ktu_offL) (by lcg_off) ?_
     | refine zb_isi (by ktu_offL) (by lcg_off) ?_
     | refine zb_max (by ktu_offL) (by lcg_off) ?_
     | refine zb_min (by ktu_offL) (by lcg_off) ?_
     | refine zb_list (by ktu_offL) (by lcg_off) ?_)
  | (with_reducible show JE _ _ (Expr.Tuple _ _ _) _ _
     refine je_tup ?_)
  | (with_reducible show JE _ _ (Expr.UnaryOp _ _ _) _ _
     first | refine je_not ?_ | refine je_un ?_)
  | (with_reducible show JE _ _ (Expr.Compare _ _ _ _) _ _
     first | refine je_cmp (nomark _) ?_ | refine je_chain (by with_unfolding_all rfl) ?_)
  | (with_reducible show JE _ _ (Expr.BoolOp _ _ _) _ _
     first | refine je_one ?_ | refine je_and ?_ | refine je_or ?_)
  | (with_reducible show JE _ _ (Expr.IfExp _ _ _ _) _ _
     refine je_if ?_)
  | (with_reducible show JE _ _ (Expr.List _ _) _ _
     refine jf_je (jf_lst ?_)))
local macro_rules | `(tactic| k_subL) => `(tactic| first
  | ((with_reducible show JT _ _ (Expr.Compare _ _ _ _) _ _); first | refine jt_cmp (nomark _) ?_ | refine jt_chain (by with_unfolding_all rfl) ?_)
  | ((with_reducible show JT _ _ (Expr.BoolOp _ _ _) _ _); refine jw_t ?_)
  | ((with_reducible show JT _ _ (Expr.UnaryOp _ _ _) _ _); refine jt_not ?_)
  | refine jt_val ?_ (fun _ _ => rfl))
local macro_rules | `(tactic| k_clsL) => `(tactic| first
  | refine jw_and1 ?_
  | refine jw_or1 ?_
  | refine jw_and ?_
  | refine jw_or ?_)
local macro_rules | `(tactic| kct_strs) => `(tactic| first
  | (with_reducible refine od_add ?_)
  | (with_reducible refine od_sub ?_)
  | ((with_reducible show OpD _ _ (binaryOp Operator.Mult) _ _ _); refine od_mul (by lcg_src) ?_)
  | ((with_reducible show OpD _ _ (binaryOp Operator.Mod) _ _ _); refine od_mod (by lcg_sub) ?_)
  | ((with_reducible show OpD _ _ (binaryOp Operator.FloorDiv) _ _ _); refine od_fdiv (by lcg_sub) (by nest_cls) ?_)
  | ((with_reducible show OpD _ _ (binaryOp Operator.Pow) _ _ _); first | (with_reducible refine od_p10_3 ?_) | (with_reducible refine od_p10_6 ?_) | (with_reducible refine od_p10_9 ?_) | (with_reducible refine od_p10_12 ?_) | (with_reducible refine od_p10_18 ?_) | (with_reducible refine od_p10_19 ?_) | (with_reducible refine od_p10_20 ?_) | (with_reducible refine od_p10_30 ?_) | (with_reducible refine od_p10_39 ?_) | (with_reducible refine od_p10_40 ?_) | (with_reducible refine od_p10_64 ?_))
  | (with_reducible refine od_eq ?_)
  | (with_reducible refine od_ne ?_)
  | (with_reducible refine od_lt ?_)
  | (with_reducible refine od_le ?_)
  | (with_reducible refine od_gt ?_)
  | (with_reducible refine od_ge ?_)
  | (with_reducible refine od_eqS ?_)
  | (with_reducible refine od_neS ?_)
  | (with_reducible refine od_eqB ?_)
  | (with_reducible refine od_isN ?_)
  | (with_reducible refine od_notN ?_)
  | ((with_reducible show OpD _ _ (binaryOp Operator.Add) (D.lst _) (D.lst _) _); refine of_od (of_cat (by lcg_sub) ?_))
  | (with_reducible refine od_iadd ?_)
  | (with_reducible refine od_isub ?_))
local macro_rules | `(tactic| kd_addB) => `(tactic| first
  | (with_reducible refine cd_lenL ?_)
  | (with_reducible refine cd_lenT ?_)
  | (with_reducible refine cd_int ?_)
  | (with_reducible refine cd_intB ?_)
  | (with_reducible refine cd_abs ?_)
  | (with_reducible refine cd_max ?_)
  | (with_reducible refine cd_min ?_)
  | (with_reducible refine ci_bool (by with_unfolding_all rfl) ?_)
  | (with_reducible refine ci_int (by with_unfolding_all rfl) ?_)
  | (with_reducible refine ci_str (by with_unfolding_all rfl) ?_)
  | (with_reducible refine ci_tup (by with_unfolding_all rfl) ?_)
  | (with_reducible refine ci_lst (by with_unfolding_all rfl) ?_)
  | (with_reducible refine ci_dict (by with_unfolding_all rfl) ?_))
local macro_rules | `(tactic| kd_addW) => `(tactic| first
  | refine zs_ret ?_
  | refine zs_if ?_
  | refine zs_set (by ktu_offI) ?_
  | refine zs_append (by ktu_offI) (by rfl) ?_
  | refine zs_expr ?_
  | refine zs_aug (by ktu_offI) (by rfl) ?_
  | refine zs_par (by ktu_offI) (by ktu_offI) (by decide) (by decide +kernel) (by decide +kernel) ?_ (fun env h => by cases env; cases h; rfl)
  | refine zs_stoPut ?_
  | refine zs_asg ?_)
local macro_rules | `(tactic| kcj_in) => `(tactic| first
  | refine zg_name (by ktu_offI) ?_
  | refine jg_tup (by rfl) ?_)
local macro_rules | `(tactic| krn_off) => `(tactic| first
  | refine L2.iteT ?_
  | refine L2.iteF ?_
  | refine ite_dT (by lcg_sub) ?_
  | refine ite_dF (by lcg_sub) ?_
  | refine ite_ndT (by lcg_sub) ?_
  | refine ite_ndF (by lcg_sub) ?_)
local macro_rules | `(tactic| kas_types) => `(tactic| first
  | ((with_reducible show JE _ _ _ _ _); k_offL)
  | ((with_reducible show OpD _ _ _ _ _ _); kct_strs)
  | ((with_reducible show JSs _ _ _ _ _); first | refine zs_one ?_ | refine zs_cons ?_ | refine zs_nil ?_)
  | ((with_reducible show JS _ _ _ _ _); kd_addW)
  | ((with_reducible show JT _ _ _ _ _); k_subL)
  | ((with_reducible show JW _ _ _ _ _); k_clsL)
  | ((with_reducible show IxD _ _ _ _ _); first | refine ixd_tup (by rfl) ?_ | refine ixd_lst (by rfl) ?_)
  | ((with_reducible show UnD _ _ _ _ _); refine ud_neg ?_)
  | ((with_reducible show JA _ _ _ _ _); first | refine ja_nil ?_ | refine ja_cons (fun _ => rfl) ?_)
  | ((with_reducible show isBl _ _); refine isBl_mk ?_)
  | ((with_reducible show CallD _ _ _ _ _); kd_addB)
  | ((with_reducible show CallF _ _ _ _ _); first | refine cf_list ?_ | refine cf_listT ?_)
  | ((with_reducible show JG _ _ _ _ _ _); kcj_in)
  | ((with_reducible show JGs _ _ _ _ _ _); first | refine jgs_nil ?_ | refine jgs_cons ?_)
  | ((with_reducible show (if _ then _ else _ : Prop)); krn_off)
  | ((with_reducible show _ ≤ sizeLine ∧ _); refine And.intro (by first | exact (by decide : _ ≤ sizeLine) | (simp; done) | (simp; decide)) ?_)
  | ((with_reducible show flatD _ ∧ _); refine And.intro (by simp [flatD, flatL]) ?_)
  | ((with_reducible show ∃ c, D.sto _ = D.sto c ∧ _); refine Exists.intro _ (And.intro rfl ?_))
  | ((with_reducible show StoGet _ _ _); first | refine sg_restB (fun r h1 h2 => ?_) | refine sg_left (fun r h1 => ?_) | refine sg_at (fun r h1 h2 => ?_) | refine sg_turn (fun r => ?_) | refine sg_seed (fun r => ?_) | refine sg_cells ?_)
  | lsm_bools)
local macro_rules | `(tactic| kat_tups) => `(tactic| repeat kas_types)
/-! _law_take -/
inductive cTake : List D → (D → Prop) → EK → Prop
  | mk {P : D → Prop} {E : EK} (cells : List Int) (hl : cells.length ≤ 63) (many : Int) (k : ∀ v : Int, 0 ≤ v → (v < many ∨ v = 0) → P (.int v)) : cTake [.sto cells, .int many] P E
abbrev S_take : Scp := { N := ["store", "many", "value", "number"], sc := defScope (top 18), vs := [("store", 0), ("many", 1), ("value", 2), ("number", 3)], ss := [("store", 0), ("many", 1), ("value", 2), ("number", 3)], gl := ["_law_mixed", "_law_opened", "int"], lv := 2 }
local macro_rules | `(tactic| lsm_bools) => `(tactic| refine cOpened.mk _ (by omega) ?_)
local macro_rules | `(tactic| lsm_bools) => `(tactic| refine cMixed.mk _ _ _ (by omega) (fun v h1 h2 => ?_))
theorem b_take {U : Env1} (hB : Blt U ["int"]) (F1 : U.Def "_law_mixed" 2 [] cMixed) (F2 : U.Def "_law_opened" 2 [] cOpened) (G H : Hp) (ds) (P) (E) (h : cTake ds P E) : JSs S_take (U.cg G H fun _ => E) (defBody (top 18)) (startD S_take.N ds) { nx := fun _ => P .non, rt := P } := by
  obtain ⟨cells, hl, many, k⟩ := h
  -- behind the opening
  have rest : ∀ δ, δ = startD S_take.N [.sto cells, .int many] → ¬ many < 2 → JSs S_take (U.cg G H fun _ => E) ((defBody (top 18)).drop 2) δ { nx := fun _ => P .non, rt := P } := by
    rintro δ rfl hm
    show JSs _ _ (_ :: _ :: _ :: _ :: _ :: []) _ _
    kat_tups
    rename_i r0 _ _
    refine ite_d (fun h1 => ?_) (fun h1 => ?_)
    · kat_tups
      rename_i r1 _ _ r2 g1 g2
      refine ⟨spp_restB (Int.ediv_nonneg g1 (by omega)) (bd_div g2), ?_⟩
      kat_tups
      exact k _ (Int.emod_nonneg _ (by omega)) (.inl (Int.emod_lt_of_pos _ (by omega)))
    · kat_tups
      rename_i s0 l0 hl0
      refine ite_d (fun h2 => ?_) (fun h2 => ?_)
      · kat_tups
        rename_i a0 b1 b2
        have hne := hl0 h2
        have hpos : 0 < cells.length := List.length_pos_iff.mpr hne
        obtain ⟨c, hc⟩ := atI_ints (cells := cells) (k := a0 - 1) (by omega) (by omega)
        refine ixd_lst hc ?_
        kat_tups
        rename_i l1 hl1
        refine ⟨spp_left fun _ => hne, ?_⟩
        kat_tups
        refine ⟨spp_turn, ?_⟩
        kat_tups
        rename_i v w1 w2
        exact k v w1 (.inl w2)
      · kat_tups
        refine ⟨spp_turn, ?_⟩
        kat_tups
        rename_i v w1 w2
        exact k v w1 (.inl w2)
  refine zs_cons ?_
  kat_tups
  refine ite_d (fun h1 => ?_) (fun h1 => ?_)
  · kat_tups
    exact k 0 (by omega) (.inr rfl)
  refine zs_nil ?_
  refine zs_cut fun Q hQ => ?_
  have hq := hQ _ (rest _ rfl h1)
  kat_tups
  refine ite_d (fun h2 => ?_) (fun h2 => ?_)
  · kat_tups
    refine ite_d (fun h3 => ?_) (fun h3 => ?_)
    · kat_tups
      exact hq
    · kat_tups
      exact hq
  · kat_tups
    exact hq
end Z
set_option Elab.async false
set_option linter.all false
set_option maxRecDepth 100000
set_option maxHeartbeats 4000000
namespace Z
open PySem L2
local macro_rules | `(tactic| lsm_bools) => `(tactic| fail)
local macro_rules | `(tactic| ktu_offI) => `(tactic| with_reducible (first | exact Has.head | (apply Has.tail; ktu_offI)))
local macro_rules | `(tactic| ktu_offL) => `(tactic| with_reducible (first | exact HasG.head | (apply HasG.tail; ktu_offL)))
local macro_rules | `(tactic| lcg_off) => `(tactic| exact Blt.h (by assumption) _ (by ktu_offL))
local macro_rules | `(tactic| lcg_sub) => `(tactic| first | assumption | omega | decide +kernel)
local macro_rules | `(tactic| lcg_src) => `(tactic| first | exact Bd.ok (n := 3000) (m := 3000) (by unfold Bd; decide +kernel) (by unfold Bd; decide +kernel) (by decide) | exact mulok_r (by omega) | exact mulok_l (by omega) | exact Bd.ok (by mem_news) (by mem_news) (by omega))
local macro_rules | `(tactic| mem_news) => `(tactic| with_reducible (first | assumption | exact Bd.neg (by mem_news) | exact Bd.mul (by mem_news) (by mem_news) | exact Bd.add (by mem_news) (by mem_news) | exact Bd.sub (by mem_news) (by mem_news)))
local macro_rules | `(tactic| nest_cls) => `(tactic| first | exact PyProof.noPylong_small (by decide) | exact nopy_i (by mem_news) (by omega) | exact nopy_j (by mem_news) (by omega))
local macro_rules | `(tactic| k_offL) => `(tactic| first
  | (with_reducible show JE _ _ (Expr.Name _ _) _ _
     first
     | refine ze_name (by ktu_offI) (by rfl) ?_
     | refine zt_int (by ktu_offL) (by lcg_off) ?_
     | refine zt_bool (by ktu_offL) (by lcg_off) ?_
     | refine zt_str (by ktu_offL) (by lcg_off) ?_
     | refine zt_tuple (by ktu_offL) (by lcg_off) ?_
     | refine zt_list (by ktu_offL) (by lcg_off) ?_
     | refine zt_dict (by ktu_offL) (by lcg_off) ?_)
  | (with_reducible show JE _ _ (Expr.Constant _ _ _) _ _
     first | refine je_int ?_ | refine je_str ?_ | refine je_bl ?_ | refine je_non ?_)
  | (with_reducible show JE _ _ (Expr.Subscript _ _ _) _ _
     first
     | refine je_stoGet ?_
     | refine je_ix (fun _ _ => rfl) ?_)
  | (with_reducible show JE _ _ (Expr.BinOp _ _ _ _) _ _
     refine je_bin ?_)
  | (with_reducible show JE _ _ (Expr.Call _ _ _ _) _ _
     first
     | refine ze_own (by ktu_offI) (by rfl) ?_
     | refine ze_call (by assumption) (by first | decide | exact Nat.le_refl _) (by ktu_offL) ?_
     | refine zb_len (by ktu_offL) (by lcg_off) ?_
     | refine zb_int (by ktu_offL) (by lcg_off) ?_
     | refine zb_abs (by ktu_offL) (by lcg_off) ?_
     | refine zb_isi (by ktu_offL) (by lcg_off) ?_
     | refine zb_max (by ktu_offL) (by lcg_off) ?_
     | refine zb_min (by ktu_offL) (by lcg_off) ?_
     | refine zb_list (by ktu_offL) (by lcg_off) ?_)
  | (with_reducible show JE _ _ (Expr.Tuple _ _ _) _ _
     refine je_tup ?_)
  | (with_reducible show JE _ _ (Expr.UnaryOp _ _ _) _ _
     first | refine je_not ?_ | refine je_un ?_)
  | (with_reducible show JE _ _ (Expr.Compare _ _ _ _) _ _
     first | refine je_cmp (nomark _) ?_ | refine je_chain (by with_unfolding_all rfl) ?_)
  | (with_reducible show JE _ _ (Expr.BoolOp _ _ _) _ _
     first | refine je_one ?_ | refine je_and ?_ | refine je_or ?_)
  | (with_reducible show JE _ _ (Expr.IfExp _ _ _ _) _ _
     refine je_if ?_)
  | (with_reducible show JE _ _ (Expr.List _ _) _ _
     refine jf_je (jf_lst ?_)))
local macro_rules | `(tactic| k_subL) => `(tactic| first
  | ((with_reducible show JT _ _ (Expr.Compare _ _ _ _) _ _); first | refine jt_cmp (nomark _) ?_ | refine jt_chain (by with_unfolding_all rfl) ?_)
  | ((with_reducible show JT _ _ (Expr.BoolOp _ _ _) _ _); refine jw_t ?_)
  | ((with_reducible show JT _ _ (Expr.UnaryOp _ _ _) _ _); refine jt_not ?_)
  | refine jt_val ?_ (fun _ _ => rfl))
local macro_rules | `(tactic| k_clsL) => `(tactic| first
  | refine jw_and1 ?_
  | refine jw_or1 ?_
  | refine jw_and ?_
  | refine jw_or ?_)
local macro_rules | `(tactic| kct_strs) => `(tactic| first
  | (with_reducible refine od_add ?_)
  | (with_reducible refine od_sub ?_)
  | ((with_reducible show OpD _ _ (binaryOp Operator.Mult) _ _ _); refine od_mul (by lcg_src) ?_)
  | ((with_reducible show OpD _ _ (binaryOp Operator.Mod) _ _ _); refine od_mod (by lcg_sub) ?_)
  | ((with_reducible show OpD _ _ (binaryOp Operator.FloorDiv) _ _ _); refine od_fdiv (by lcg_sub) (by nest_cls) ?_)
  | ((with_reducible show OpD _ _ (binaryOp Operator.Pow) _ _ _); first | (with_reducible refine od_p10_3 ?_) | (with_reducible refine od_p10_6 ?_) | (with_reducible refine od_p10_9 ?_) | (with_reducible refine od_p10_12 ?_) | (with_reducible refine od_p10_18 ?_) | (with_reducible refine od_p10_19 ?_) | (with_reducible refine od_p10_20 ?_) | (with_reducible refine od_p10_30 ?_) | (with_reducible refine od_p10_39 ?_) | (with_reducible refine od_p10_40 ?_) | (with_reducible refine od_p10_64 ?_))
  | (with_reducible refine od_eq ?_)
  | (with_reducible refine od_ne ?_)
  | (with_reducible refine od_lt ?_)
  | (with_reducible refine od_le ?_)
  | (with_reducible refine od_gt ?_)
  | (with_reducible refine od_ge ?_)
  | (with_reducible refine od_eqS ?_)
  | (with_reducible refine od_neS ?_)
  | (with_reducible refine od_eqB ?_)
  | (with_reducible refine od_isN ?_)
  | (with_reducible refine od_notN ?_)
  | ((with_reducible show OpD _ _ (binaryOp Operator.Add) (D.lst _) (D.lst _) _); refine of_od (of_cat (by lcg_sub) ?_))
  | (with_reducible refine od_iadd ?_)
  | (with_reducible refine od_isub ?_))
local macro_rules | `(tactic| kd_addB) => `(tactic| first
  | (with_reducible refine cd_lenL ?_)
  | (with_reducible refine cd_lenT ?_)
  | (with_reducible refine cd_int ?_)
  | (with_reducible refine cd_intB ?_)
  | (with_reducible refine cd_abs ?_)
  | (with_reducible refine cd_max ?_)
  | (with_reducible refine cd_min ?_)
  | (with_reducible refine ci_bool (by with_unfolding_all rfl) ?_)
  | (with_reducible refine ci_int (by with_unfolding_all rfl) ?_)
  | (with_reducible refine ci_str (by with_unfolding_all rfl) ?_)
  | (with_reducible refine ci_tup (by with_unfolding_all rfl) ?_)
  | (with_reducible refine ci_lst (by with_unfolding_all rfl) ?_)
  | (with_reducible refine ci_dict (by with_unfolding_all rfl) ?_))
local macro_rules | `(tactic| kd_addW) => `(tactic| first
  | refine zs_ret ?_
  | refine zs_if ?_
  | refine zs_set (by ktu_offI) ?_
  | refine zs_append (by ktu_offI) (by rfl) ?_
  | refine zs_expr ?_
  | refine zs_aug (by ktu_offI) (by rfl) ?_
  | refine zs_par (by ktu_offI) (by ktu_offI) (by decide) (by decide +kernel) (by decide +kernel) ?_ (fun env h => by cases env; cases h; rfl)
  | refine zs_stoPut ?_
  | refine zs_asg ?_)
local macro_rules | `(tactic| kcj_in) => `(tactic| first
  | refine zg_name (by ktu_offI) ?_
  | refine jg_tup (by rfl) ?_)
local macro_rules | `(tactic| krn_off) => `(tactic| first
  | refine L2.iteT ?_
  | refine L2.iteF ?_
  | refine ite_dT (by lcg_sub) ?_
  | refine ite_dF (by lcg_sub) ?_
  | refine ite_ndT (by lcg_sub) ?_
  | refine ite_ndF (by lcg_sub) ?_)
local macro_rules | `(tactic| kas_types) => `(tactic| first
  | ((with_reducible show JE _ _ _ _ _); k_offL)
  | ((with_reducible show OpD _ _ _ _ _ _); kct_strs)
  | ((with_reducible show JSs _ _ _ _ _); first | refine zs_one ?_ | refine zs_cons ?_ | refine zs_nil ?_)
  | ((with_reducible show JS _ _ _ _ _); kd_addW)
  | ((with_reducible show JT _ _ _ _ _); k_subL)
  | ((with_reducible show JW _ _ _ _ _); k_clsL)
  | ((with_reducible show IxD _ _ _ _ _); first | refine ixd_tup (by rfl) ?_ | refine ixd_lst (by rfl) ?_)
  | ((with_reducible show UnD _ _ _ _ _); refine ud_neg ?_)
  | ((with_reducible show JA _ _ _ _ _); first | refine ja_nil ?_ | refine ja_cons (fun _ => rfl) ?_)
  | ((with_reducible show isBl _ _); refine isBl_mk ?_)
  | ((with_reducible show CallD _ _ _ _ _); kd_addB)
  | ((with_reducible show CallF _ _ _ _ _); first | refine cf_list ?_ | refine cf_listT ?_)
  | ((with_reducible show JG _ _ _ _ _ _); kcj_in)
  | ((with_reducible show JGs _ _ _ _ _ _); first | refine jgs_nil ?_ | refine jgs_cons ?_)
  | ((with_reducible show (if _ then _ else _ : Prop)); krn_off)
  | ((with_reducible show _ ≤ sizeLine ∧ _); refine And.intro (by first | exact (by decide : _ ≤ sizeLine) | (simp; done) | (simp; decide)) ?_)
  | ((with_reducible show flatD _ ∧ _); refine And.intro (by simp [flatD, flatL]) ?_)
  | ((with_reducible show ∃ c, D.sto _ = D.sto c ∧ _); refine Exists.intro _ (And.intro rfl ?_))
  | ((with_reducible show StoGet _ _ _); first | refine sg_restB (fun r h1 h2 => ?_) | refine sg_left (fun r h1 => ?_) | refine sg_at (fun r h1 h2 => ?_) | refine sg_turn (fun r => ?_) | refine sg_seed (fun r => ?_) | refine sg_cells ?_)
  | lsm_bools)
local macro_rules | `(tactic| kat_tups) => `(tactic| repeat kas_types)
/-! _law_between -/
inductive cBetween : List D → (D → Prop) → EK → Prop
  | mk {P : D → Prop} {E : EK} (cells : List Int) (hl : cells.length ≤ 63) (low high : Int) (k : ∀ v : Int, low ≤ v → (v ≤ high ∨ v = low) → P (.int v)) : cBetween [.sto cells, .int low, .int high] P E
abbrev S_between : Scp := { N := ["store", "low", "high", "kind"], sc := defScope (top 19), vs := [("store", 0), ("low", 1), ("high", 2), ("kind", 3)], ss := [("store", 0), ("low", 1), ("high", 2), ("kind", 3)], gl := ["_law_take"], lv := 3 }
local macro_rules | `(tactic| lsm_bools) => `(tactic| refine cTake.mk _ (by assumption) _ (fun v h1 h2 => ?_))
theorem b_between {U : Env1} (F1 : U.Def "_law_take" 3 [] cTake) (G H : Hp) (ds) (P) (E) (h : cBetween ds P E) : JSs S_between (U.cg G H fun _ => E) (defBody (top 19)) (startD S_between.N ds) { nx := fun _ => P .non, rt := P } := by
  obtain ⟨cells, hl, low, high, k⟩ := h
  kat_tups
  refine ite_d (fun h1 => ?_) (fun h1 => ?_)
  · kat_tups
    exact k _ (by omega) (.inr rfl)
  kat_tups
  rename_i v w1 w2
  refine ite_d (fun h2 => ?_) (fun h2 => ?_)
  · kat_tups
    exact k _ (by omega) (.inr rfl)
  kat_tups
  refine ite_d (fun h3 => ?_) (fun h3 => ?_)
  · kat_tups
    exact k _ (by omega) (.inl (by omega))
  kat_tups
  rename_i u u1 u2
  exact k _ (by omega) (.inl (by omega))
/-! _law_pick -/
def AllP : List D → (D → Prop) → Prop
  | [], _ => True
  | d :: ds, P => P d ∧ AllP ds P
theorem AllP.mem : ∀ {ds : List D} {P : D → Prop} {d : D}, AllP ds P → d ∈ ds → P d
  | [], _, _, _, h => by simp at h
  | e :: es, P, d, a, h => by
    rcases List.mem_cons.mp h with h | h
    · subst h; exact a.1
    · exact AllP.mem a.2 h
inductive cPick : List D → (D → Prop) → EK → Prop
  | mk {P : D → Prop} {E : EK} (cells : List Int) (hl : cells.length ≤ 63) (ds : List D) (h0 : 0 < ds.length) (h1 : ds.length ≤ 100) (k : AllP ds P) : cPick [.sto cells, .lst ds] P E
abbrev S_pick : Scp := { N := ["store", "items"], sc := defScope (top 20), vs := [("store", 0), ("items", 1)], ss := [("store", 0), ("items", 1)], gl := ["_law_take", "len"], lv := 3 }
theorem b_pick {U : Env1} (hB : Blt U ["len"]) (F1 : U.Def "_law_take" 3 [] cTake) (G H : Hp) (ds) (P) (E) (h : cPick ds P E) : JSs S_pick (U.cg G H fun _ => E) (defBody (top 20)) (startD S_pick.N ds) { nx := fun _ => P .non, rt := P } := by
  obtain ⟨cells, hl, ds, h0, hm, k⟩ := h
  kat_tups
  rename_i v w1 w2
  obtain ⟨d, hd, e⟩ := atI_some (ds := ds) (k := v) (by omega) (by omega)
  exact ixd_lst e (k.mem hd)
/-! _law_whole -/
theorem bd40 {v : Int} (h1 : -10000000000000000000000000000000000000000 < v) (h2 : v < 10000000000000000000000000000000000000000) : Bd 133 v := by
  unfold Bd
  have e : (2 : Nat) ^ 133 = 10889035741470030830827987437816582766592 := by decide +kernel
  rw [e]
  omega
inductive cWhole : List D → (D → Prop) → EK → Prop
  | mk {P : D → Prop} {E : EK} (cells : List Int) (hl : cells.length ≤ 63) (k : ∀ v : Int, Bd 133 v → P (.int v)) : cWhole [.sto cells] P E
abbrev S_whole : Scp := { N := ["store", "kind", "great"], sc := defScope (top 21), vs := [("store", 0), ("kind", 1), ("great", 2)], ss := [("store", 0), ("kind", 1), ("great", 2)], gl := ["_law_take", "_law_pick"], lv := 4 }
local macro_rules | `(tactic| lsm_bools) => `(tactic| first | refine cTake.mk _ (by assumption) _ (fun v h1 h2 => ?_) | refine cPick.mk _ (by assumption) _ (by decide) (by decide) ?_)
theorem b_whole {U : Env1} (F1 : U.Def "_law_take" 3 [] cTake) (F2 : U.Def "_law_pick" 4 [] cPick) (G H : Hp) (ds) (P) (E) (h : cWhole ds P E) : JSs S_whole (U.cg G H fun _ => E) (defBody (top 21)) (startD S_whole.N ds) { nx := fun _ => P .non, rt := P } := by
  obtain ⟨cells, hl, k⟩ := h
  kat_tups
  refine ite_d (fun h1 => ?_) (fun h1 => ?_)
  · kat_tups
    exact ⟨k _ (bd40 (by decide) (by decide)), k _ (bd40 (by decide) (by decide)), k _ (bd40 (by decide) (by decide)), k _ (bd40 (by decide) (by decide)), k _ (bd40 (by decide) (by decide)), k _ (bd40 (by decide) (by decide)), k _ (bd40 (by decide) (by decide)), k _ (bd40 (by decide) (by decide)), k _ (bd40 (by decide) (by decide)), k _ (bd40 (by decide) (by decide)), trivial⟩
  kat_tups
  refine ite_d (fun h2 => ?_) (fun h2 => ?_)
  · kat_tups
    rename_i u u1 u2
    obtain rfl | rfl : u = 0 ∨ u = 1 := by omega
    · exact k _ (bd40 (by omega) (by omega))
    · exact k _ (bd40 (by omega) (by omega))
  kat_tups
  refine ite_d (fun h3 => ?_) (fun h3 => ?_)
  · kat_tups
    exact k _ (bd40 (by omega) (by omega))
  · kat_tups
    exact k _ (bd40 (by omega) (by omega))
end Z
set_option Elab.async false
set_option linter.all false
set_option maxRecDepth 100000
set_option maxHeartbeats 4000000
namespace Z
open PySem L2
local macro_rules | `(tactic| lsm_bools) => `(tactic| fail)
local macro_rules | `(tactic| ktu_offI) => `(tactic| with_reducible (first | exact Has.head | (apply Has.tail; ktu_offI)))
local macro_rules | `(tactic| ktu_offL) => `(tactic| with_reducible (first | exact HasG.head | (apply HasG.tail; ktu_offL)))
local macro_rules | `(tactic| lcg_off) => `(tactic| exact Blt.h (by assumption) _ (by ktu_offL))
local macro_rules | `(tactic| lcg_sub) => `(tactic| first | assumption | omega | decide +kernel)
local macro_rules | `(tactic| lcg_src) => `(tactic| first | exact Bd.ok (n := 3000) (m := 3000) (by unfold Bd; decide +kernel) (by unfold Bd; decide +kernel) (by decide) | exact mulok_r (by omega) | exact mulok_l (by omega) | exact Bd.ok (by mem_news) (by mem_news) (by omega))
local macro_rules | `(tactic| mem_news) => `(tactic| with_reducible (first | assumption | exact Bd.neg (by mem_news) | exact Bd.mul (by mem_news) (by mem_news) | exact Bd.add (by mem_news) (by mem_news) | exact Bd.sub (by mem_news) (by mem_news)))
local macro_rules | `(tactic| nest_cls) => `(tactic| first | exact PyProof.noPylong_small (by decide) | exact nopy_i (by mem_news) (by omega) | exact nopy_j (by mem_news) (by omega))
local macro_rules | `(tactic| k_offL) => `(tactic| first
  | (with_reducible show JE _ _ (Expr.Name _ _) _ _
     first
     | refine ze_name (by ktu_offI) (by rfl) ?_
     | refine zt_int (by ktu_offL) (by lcg_off) ?_
     | refine zt_bool (by ktu_offL) (by lcg_off) ?_
     | refine zt_str (by ktu_offL) (by lcg_off) ?_
     | refine zt_tuple (by ktu_offL) (by lcg_off) ?_
     | refine zt_list (by ktu_offL) (by lcg_off) ?_
     | refine zt_dict (by ktu_offL) (by lcg_off) ?_)
  | (with_reducible show JE _ _ (Expr.Constant _ _ _) _ _
     first | refine je_int ?_ | refine je_str ?_ | refine je_bl ?_ | refine je_non ?_)
  | (with_reducible show JE _ _ (Expr.Subscript _ _ _) _ _
     first
     | refine je_stoGet ?_
     | refine je_ix (fun _ _ => rfl) ?_)
  | (with_reducible show JE _ _ (Expr.BinOp _ _ _ _) _ _
     refine je_bin ?_)
  | (with_reducible show JE _ _ (Expr.Call _ _ _ _) _ _
     first
     | refine ze_own (by ktu_offI) (by rfl) ?_
     | refine ze_call (by assumption) (by first | decide | exact Nat.le_refl _) (by ktu_offL) ?_
     | refine zb_len (by ktu_offL) (by lcg_off) ?_
     | refine zb_int (by ktu_offL) (by lcg_off) ?_
     | refine zb_abs (by ktu_offL) (by lcg_off) ?_
     | refine zb_isi (by ktu_offL) (by lcg_off) ?_
     | refine zb_max (by ktu_offL) (by lcg_off) ?_
     | refine zb_min (by ktu_offL) (by lcg_off) ?_
     | refine zb_list (by ktu_offL) (by lcg_off) ?_)
  | (with_reducible show JE _ _ (Expr.Tuple _ _ _) _ _
     refine je_tup ?_)
  | (with_reducible show JE _ _ (Expr.UnaryOp _ _ _) _ _
     first | refine je_not ?_ | refine je_un ?_)
  | (with_reducible show JE _ _ (Expr.Compare _ _ _ _) _ _
     first | refine je_cmp (nomark _) ?_ | refine je_chain (by with_unfolding_all rfl) ?_)
  | (with_reducible show JE _ _ (Expr.BoolOp _ _ _) _ _
     first | refine je_one ?_ | refine je_and ?_ | refine je_or ?_)
  | (with_reducible show JE _ _ (Expr.IfExp _ _ _ _) _ _
     refine je_if ?_)
  | (with_reducible show JE _ _ (Expr.List _ _) _ _
     refine jf_je (jf_lst ?_)))
local macro_rules | `(tactic| k_subL) => `(tactic| first
  | ((with_reducible show JT _ _ (Expr.Compare _ _ _ _) _ _); first | refine jt_cmp (nomark _) ?_ | refine jt_chain (by with_unfolding_all rfl) ?_)
  | ((with_reducible show JT _ _ (Expr.BoolOp _ _ _) _ _); refine jw_t ?_)
  | ((with_reducible show JT _ _ (Expr.UnaryOp _ _ _) _ _); refine jt_not ?_)
  | refine jt_val ?_ (fun _ _ => rfl))
local macro_rules | `(tactic| k_clsL) => `(tactic| first
  | refine jw_and1 ?_
  | refine jw_or1 ?_
  | refine jw_and ?_
  | refine jw_or ?_)
local macro_rules | `(tactic| kct_strs) => `(tactic| first
  | (with_reducible refine od_add ?_)
  | (with_reducible refine od_sub ?_)
  | ((with_reducible show OpD _ _ (binaryOp Operator.Mult) _ _ _); refine od_mul (by lcg_src) ?_)
  | ((with_reducible show OpD _ _ (binaryOp Operator.Mod) _ _ _); refine od_mod (by lcg_sub) ?_)
  | ((with_reducible show OpD _ _ (binaryOp Operator.FloorDiv) _ _ _); refine od_fdiv (by lcg_sub) (by nest_cls) ?_)
  | ((with_reducible show OpD _ _ (binaryOp Operator.Pow) _ _ _); first | (with_reducible refine od_p10_3 ?_) | (with_reducible refine od_p10_6 ?_) | (with_reducible refine od_p10_9 ?_) | (with_reducible refine od_p10_12 ?_) | (with_reducible refine od_p10_18 ?_) | (with_reducible refine od_p10_19 ?_) | (with_reducible refine od_p10_20 ?_) | (with_reducible refine od_p10_30 ?_) | (with_reducible refine od_p10_39 ?_) | (with_reducible refine od_p10_40 ?_) | (with_reducible refine od_p10_64 ?_))
  | (with_reducible refine od_eq ?_)
  | (with_reducible refine od_ne ?_)
  | (with_reducible refine od_lt ?_)
  | (with_reducible refine od_le ?_)
  | (with_reducible refine od_gt ?_)
  | (with_reducible refine od_ge ?_)
  | (with_reducible refine od_eqS ?_)
  | (with_reducible refine od_neS ?_)
  | (with_reducible refine od_eqB ?_)
  | (with_reducible refine od_isN ?_)
  | (with_reducible refine od_notN ?_)
  | ((with_reducible show OpD _ _ (binaryOp Operator.Add) (D.lst _) (D.lst _) _); refine of_od (of_cat (by lcg_sub) ?_))
  | (with_reducible refine od_iadd ?_)
  | (with_reducible refine od_isub ?_))
local macro_rules | `(tactic| kd_addB) => `(tactic| first
  | (with_reducible refine cd_lenL ?_)
  | (with_reducible refine cd_lenT ?_)
  | (with_reducible refine cd_int ?_)
  | (with_reducible refine cd_intB ?_)
  | (with_reducible refine cd_abs ?_)
  | (with_reducible refine cd_max ?_)
  | (with_reducible refine cd_min ?_)
  | (with_reducible refine ci_bool (by with_unfolding_all rfl) ?_)
  | (with_reducible refine ci_int (by with_unfolding_all rfl) ?_)
  | (with_reducible refine ci_str (by with_unfolding_all rfl) ?_)
  | (with_reducible refine ci_tup (by with_unfolding_all rfl) ?_)
  | (with_reducible refine ci_lst (by with_unfolding_all rfl) ?_)
  | (with_reducible refine ci_dict (by with_unfolding_all rfl) ?_))
local macro_rules | `(tactic| kd_addW) => `(tactic| first
  | refine zs_ret ?_
  | refine zs_if ?_
  | refine zs_set (by ktu_offI) ?_
  | refine zs_append (by ktu_offI) (by rfl) ?_
  | refine zs_expr ?_
  | refine zs_aug (by ktu_offI) (by rfl) ?_
  | refine zs_par (by ktu_offI) (by ktu_offI) (by decide) (by decide +kernel) (by decide +kernel) ?_ (fun env h => by cases env; cases h; rfl)
  | refine zs_stoPut ?_
  | refine zs_asg ?_)
local macro_rules | `(tactic| kcj_in) => `(tactic| first
  | refine zg_name (by ktu_offI) ?_
  | refine jg_tup (by rfl) ?_)
local macro_rules | `(tactic| krn_off) => `(tactic| first
  | refine L2.iteT ?_
  | refine L2.iteF ?_
  | refine ite_dT (by lcg_sub) ?_
  | refine ite_dF (by lcg_sub) ?_
  | refine ite_ndT (by lcg_sub) ?_
  | refine ite_ndF (by lcg_sub) ?_)
local macro_rules | `(tactic| kas_types) => `(tactic| first
  | ((with_reducible show JE _ _ _ _ _); k_offL)
  | ((with_reducible show OpD _ _ _ _ _ _); kct_strs)
  | ((with_reducible show JSs _ _ _ _ _); first | refine zs_one ?_ | refine zs_cons ?_ | refine zs_nil ?_)
  | ((with_reducible show JS _ _ _ _ _); kd_addW)
  | ((with_reducible show JT _ _ _ _ _); k_subL)
  | ((with_reducible show JW _ _ _ _ _); k_clsL)
  | ((with_reducible show IxD _ _ _ _ _); first | refine ixd_tup (by rfl) ?_ | refine ixd_lst (by rfl) ?_)
  | ((with_reducible show UnD _ _ _ _ _); refine ud_neg ?_)
  | ((with_reducible show JA _ _ _ _ _); first | refine ja_nil ?_ | refine ja_cons (fun _ => rfl) ?_)
  | ((with_reducible show isBl _ _); refine isBl_mk ?_)
  | ((with_reducible show CallD _ _ _ _ _); kd_addB)
  | ((with_reducible show CallF _ _ _ _ _); first | refine cf_list ?_ | refine cf_listT ?_)
  | ((with_reducible show JG _ _ _ _ _ _); kcj_in)
  | ((with_reducible show JGs _ _ _ _ _ _); first | refine jgs_nil ?_ | refine jgs_cons ?_)
  | ((with_reducible show (if _ then _ else _ : Prop)); krn_off)
  | ((with_reducible show _ ≤ sizeLine ∧ _); refine And.intro (by first | exact (by decide : _ ≤ sizeLine) | (simp; done) | (simp; decide)) ?_)
  | ((with_reducible show flatD _ ∧ _); refine And.intro (by simp [flatD, flatL]) ?_)
  | ((with_reducible show ∃ c, D.sto _ = D.sto c ∧ _); refine Exists.intro _ (And.intro rfl ?_))
  | ((with_reducible show StoGet _ _ _); first | refine sg_restB (fun r h1 h2 => ?_) | refine sg_left (fun r h1 => ?_) | refine sg_at (fun r h1 h2 => ?_) | refine sg_turn (fun r => ?_) | refine sg_seed (fun r => ?_) | refine sg_cells ?_)
  | lsm_bools)
local macro_rules | `(tactic| kat_tups) => `(tactic| repeat kas_types)
/-! _law_gcd -/
inductive cLgcd : List D → (D → Prop) → EK → Prop
  | mk {P : D → Prop} {E : EK} (a b : Int) (k : P (.int (Int.gcd a b))) : cLgcd [.int a, .int b] P E
abbrev S_lgcd : Scp := { N := ["one", "other", "rest"], sc := defScope (top 22), vs := [("one", 0), ("other", 1), ("rest", 2)], ss := [("one", 0), ("other", 1), ("rest", 2)], gl := ["abs", "int"], lv := 1 }
theorem abs_gcd2 (n d : Int) : Int.gcd (if n < 0 then -n else n) (if d < 0 then -d else d) = Int.gcd n d := by
  split <;> split <;> simp [Int.neg_gcd, Int.gcd_neg]
theorem b_lgcd {U : Env1} (hB : Blt U ["abs", "int"]) (G H : Hp) (ds) (P) (E) (h : cLgcd ds P E) : JSs S_lgcd (U.cg G H fun _ => E) (defBody (top 22)) (startD S_lgcd.N ds) { nx := fun _ => P .non, rt := P } := by
  obtain ⟨a, b, k⟩ := h
  rw [← abs_gcd2] at k
  have ha : 0 ≤ (if a < 0 then -a else a) := by split <;> omega
  have hb : 0 ≤ (if b < 0 then -b else b) := by split <;> omega
  kat_tups
  revert k ha hb
  generalize (if a < 0 then -a else a) = a0
  generalize (if b < 0 then -b else b) = b0
  intro k ha hb
  refine (zs_while rfl (fun m δ' => ∃ a' b' : Int, ∃ s : Sl, 0 ≤ a' ∧ 0 ≤ b' ∧ Int.gcd a' b' = Int.gcd a0 b0 ∧ m = b'.toNat ∧ δ' = [.fz (.int a'), .fz (.int b'), s]) b0.toNat ⟨a0, b0, _, ha, hb, rfl, rfl, rfl⟩ ?_)
  rintro m δ' ⟨a', b', s, ha', hb', hg, rfl, rfl⟩
  kat_tups
  refine ite_d (fun h => ?_) (fun h => ?_)
  · kat_tups
    refine ⟨(a' % b').toNat, ?_, b', a' % b', _, hb', ?_, ?_, rfl, rfl⟩
    · have := Int.emod_lt_of_pos a' (show 0 < b' by omega)
      omega
    · exact Int.emod_nonneg _ (by omega)
    · rw [gcd_step ha' (by omega), hg]
  · kat_tups
    have h : b' = 0 := by omega
    subst h
    rw [← hg] at k
    simp at k
    rwa [Int.natAbs_of_nonneg ha'] at k
/-! _law_lowest -/
inductive cLowest : List D → (D → Prop) → EK → Prop
  | mk {P : D → Prop} {E : EK} (n d : Int) (hd : 0 < d) (h1 : Bd 133 n) (h2 : Bd 133 d) (k : ∀ a b : Int, 0 < b → Int.gcd a b = 1 → Bd 133 a → Bd 133 b → P (fr (a, b))) : cLowest [.int n, .int d] P E
abbrev S_lowest : Scp := { N := ["n", "d", "both"], sc := defScope (top 23), vs := [("n", 0), ("d", 1), ("both", 2)], ss := [("n", 0), ("d", 1), ("both", 2)], gl := ["_law_gcd"], lv := 2 }
local macro_rules | `(tactic| lsm_bools) => `(tactic| refine cLgcd.mk _ _ ?_)
theorem b_lowest {U : Env1} (F1 : U.Def "_law_gcd" 2 [] cLgcd) (G H : Hp) (ds) (P) (E) (h : cLowest ds P E) : JSs S_lowest (U.cg G H fun _ => E) (defBody (top 23)) (startD S_lowest.N ds) { nx := fun _ => P .non, rt := P } := by
  obtain ⟨n, d, hd, h1, h2, k⟩ := h
  have hg := gcd_pos (n := n) (d := d) (by omega)
  kat_tups
  refine ite_d (fun h3 => ?_) (fun h3 => ?_)
  · kat_tups
    exact k 0 1 (by decide) (by decide) (bd40 (by decide) (by decide)) (bd40 (by decide) (by decide))
  · kat_tups
    have d0 : d ≠ 0 := by omega
    have e : partF n d = (n / (Int.gcd n d : Int), d / (Int.gcd n d : Int)) := if_neg (by omega)
    have q1 := partF_den (n := n) d0
    have q2 := partF_gcd (n := n) d0
    have q3 := partF_le (n := n) d0
    rw [e] at q1 q2 q3
    exact k _ _ q1 q2 (h1.le q3.1) (h2.le q3.2)
/-! _law_small, _law_fraction -/
def Fr (x : Int × Int) : Prop := 0 < x.2 ∧ Int.gcd x.1 x.2 = 1 ∧ Bd 133 x.1 ∧ Bd 133 x.2
inductive cFrac : List D → (D → Prop) → EK → Prop
  | mk {P : D → Prop} {E : EK} (cells : List Int) (hl : cells.length ≤ 63) (k : ∀ a b : Int, Fr (a, b) → P (fr (a, b))) : cFrac [.sto cells] P E
theorem frS {a b : Int} (h0 : 0 < b) (h1 : Int.gcd a b = 1) (h2 : a.natAbs < 1000) (h3 : b.natAbs < 1000) : Fr (a, b) :=
  ⟨h0, h1, bd40 (by omega) (by omega), bd40 (by omega) (by omega)⟩
abbrev S_small : Scp := { N := ["store", "kind"], sc := defScope (top 25), vs := [("store", 0), ("kind", 1)], ss := [("store", 0), ("kind", 1)], gl := ["_law_take", "_law_pick", "_law_lowest"], lv := 4 }
local macro_rules | `(tactic| lsm_bools) => `(tactic| first | refine cTake.mk _ (by assumption) _ (fun v h1 h2 => ?_) | refine cPick.mk _ (by assumption) _ (by decide) (by decide) ?_ | refine cLowest.mk _ _ (by omega) (bd40 (by omega) (by omega)) (bd40 (by omega) (by omega)) (fun a b h1 h2 h3 h4 => ?_))
theorem b_small {U : Env1} (F1 : U.Def "_law_take" 3 [] cTake) (F2 : U.Def "_law_pick" 4 [] cPick) (F3 : U.Def "_law_lowest" 3 [] cLowest) (G H : Hp) (ds) (P) (E) (h : cFrac ds P E) : JSs S_small (U.cg G H fun _ => E) (defBody (top 25)) (startD S_small.N ds) { nx := fun _ => P .non, rt := P } := by
  obtain ⟨cells, hl, k⟩ := h
  kat_tups
  refine ite_d (fun h1 => ?_) (fun h1 => ?_)
  · kat_tups
    refine ⟨?_, ?_, ?_, ?_, trivial⟩ <;> exact k _ _ (frS (by decide) (by decide) (by decide) (by decide))
  kat_tups
  refine ite_d (fun h2 => ?_) (fun h2 => ?_)
  · kat_tups
    exact k _ _ (frS (by decide) (by simp) (by omega) (by decide))
  · kat_tups
    exact k _ _ ⟨by assumption, by assumption, by assumption, by assumption⟩
abbrev S_fraction : Scp := { N := ["store", "kind"], sc := defScope (top 24), vs := [("store", 0), ("kind", 1)], ss := [("store", 0), ("kind", 1)], gl := ["_law_take", "_law_pick", "_law_lowest", "_law_whole", "_law_between", "_law_small"], lv := 5 }
local macro_rules | `(tactic| lsm_bools) => `(tactic| first | refine cTake.mk _ (by assumption) _ (fun v h1 h2 => ?_) | refine cPick.mk _ (by assumption) _ (by decide) (by decide) ?_ | refine cBetween.mk _ (by assumption) _ _ (fun v h1 h2 => ?_) | refine cWhole.mk _ (by assumption) (fun v h1 => ?_) | refine cLowest.mk _ _ (by omega) (by first | assumption | exact bd40 (by omega) (by omega)) (bd40 (by omega) (by omega)) (fun a b h1 h2 h3 h4 => ?_) | refine cFrac.mk _ (by assumption) (fun a b h1 => ?_))
theorem b_fraction {U : Env1} (F1 : U.Def "_law_take" 3 [] cTake) (F2 : U.Def "_law_pick" 4 [] cPick) (F3 : U.Def "_law_lowest" 3 [] cLowest) (F4 : U.Def "_law_between" 4 [] cBetween) (F5 : U.Def "_law_whole" 5 [] cWhole) (F6 : U.Def "_law_small" 5 [] cFrac) (G H : Hp) (ds) (P) (E) (h : cFrac ds P E) : JSs S_fraction (U.cg G H fun _ => E) (defBody (top 24)) (startD S_fraction.N ds) { nx := fun _ => P .non, rt := P } := by
  obtain ⟨cells, hl, k⟩ := h
  kat_tups
  refine ite_d (fun h1 => ?_) (fun h1 => ?_)
  · kat_tups
    refine ⟨?_, ?_, ?_, ?_, ?_, ?_, ?_, trivial⟩ <;> exact k _ _ (frS (by decide) (by decide) (by decide) (by decide))
  kat_tups
  refine ite_d (fun h2 => ?_) (fun h2 => ?_)
  · kat_tups
    exact k _ _ ⟨by assumption, by assumption, by assumption, by assumption⟩
  kat_tups
  refine ite_d (fun h3 => ?_) (fun h3 => ?_)
  · kat_tups
    exact k _ _ ⟨show (0 : Int) < 1 by decide, by simp, by assumption, show Bd 133 1 from bd40 (by decide) (by decide)⟩
  · kat_tups
    exact k _ _ (by assumption)
end Z
set_option Elab.async false
set_option linter.all false
set_option maxRecDepth 100000
set_option maxHeartbeats 4000000
namespace Z
open PySem L2
local macro_rules | `(tactic| lsm_bools) => `(tactic| fail)
local macro_rules | `(tactic| ktu_offI) => `(tactic| with_reducible (first | exact Has.head | (apply Has.tail; ktu_offI)))
local macro_rules | `(tactic| ktu_offL) => `(tactic| with_reducible (first | exact HasG.head | (apply HasG.tail; ktu_offL)))
local macro_rules | `(tactic| lcg_off) => `(tactic| exact Blt.h (by assumption) _ (by ktu_offL))
local macro_rules | `(tactic| lcg_sub) => `(tactic| first | assumption | omega | decide +kernel)
local macro_rules | `(tactic| lcg_src) => `(tactic| first | exact Bd.ok (n := 3000) (m := 3000) (by unfold Bd; decide +kernel) (by unfold Bd; decide +kernel) (by decide) | exact mulok_r (by omega) | exact mulok_l (by omega) | exact Bd.ok (by mem_news) (by mem_news) (by omega))
local macro_rules | `(tactic| mem_news) => `(tactic| with_reducible (first | assumption | exact Bd.neg (by mem_news) | exact Bd.mul (by mem_news) (by mem_news) | exact Bd.add (by mem_news) (by mem_news) | exact Bd.sub (by mem_news) (by mem_news)))
local macro_rules | `(tactic| nest_cls) => `(tactic| first | exact PyProof.noPylong_small (by decide) | exact nopy_i (by mem_news) (by omega) | exact nopy_j (by mem_news) (by omega))
local macro_rules | `(tactic| k_offL) => `(tactic| first
  | (with_reducible show JE _ _ (Expr.Name _ _) _ _
     first
     | refine ze_name (by ktu_offI) (by rfl) ?_
     | refine zt_int (by ktu_offL) (by lcg_off) ?_
     | refine zt_bool (by ktu_offL) (by lcg_off) ?_
     | refine zt_str (by ktu_offL) (by lcg_off) ?_
     | refine zt_tuple (by ktu_offL) (by lcg_off) ?_
     | refine zt_list (by ktu_offL) (by lcg_off) ?_
     | refine zt_dict (by ktu_offL) (by lcg_off) ?_)
  | (with_reducible show JE _ _ (Expr.Constant _ _ _) _ _
     first | refine je_int ?_ | refine je_str ?_ | refine je_bl ?_ | refine je_non ?_)
  | (with_reducible show JE _ _ (Expr.Subscript _ _ _) _ _
     first
     | refine je_stoGet ?_
     | refine je_ix (fun _ _ => rfl) ?_)
  | (with_reducible show JE _ _ (Expr.BinOp _ _ _ _) _ _
     refine je_bin ?_)
  | (with_reducible show JE _ _ (Expr.Call _ _ _ _) _ _
     first
     | refine ze_own (by ktu_offI) (by rfl) ?_
     | refine ze_call (by assumption) (by first | decide | exact Nat.le_refl _) (by ktu_offL) ?_
     | refine zb_len (by ktu_offL) (by lcg_off) ?_
     | refine zb_int (by ktu_offL) (by lcg_off) ?_
     | refine zb_abs (by ktu_offL) (by lcg_off) ?_
     | refine zb_isi (by ktu_offL) (by lcg_off) ?_
     | refine zb_max (by ktu_offL) (by lcg_off) ?_
     | refine zb_min (by ktu_offL) (by lcg_off) ?_
     | refine zb_list (by ktu_offL) (by lcg_off) ?_)
  | (with_reducible show JE _ _ (Expr.Tuple _ _ _) _ _
     refine je_tup ?_)
  | (with_reducible show JE _ _ (Expr.UnaryOp _ _ _) _ _
     first | refine je_not ?_ | refine je_un ?_)
  | (with_reducible show JE _ _ (Expr.Compare _ _ _ _) _ _
     first | refine je_cmp (nomark _) ?_ | refine je_chain (by with_unfolding_all rfl) ?_)
  | (with_reducible show JE _ _ (Expr.BoolOp _ _ _) _ _
     first | refine je_one ?_ | refine je_and ?_ | refine je_or ?_)
  | (with_reducible show JE _ _ (Expr.IfExp _ _ _ _) _ _
     refine je_if ?_)
  | (with_reducible show JE _ _ (Expr.List _ _) _ _
     refine jf_je (jf_lst ?_)))
local macro_rules | `(tactic| k_subL) => `(tactic| first
  | ((with_reducible show JT _ _ (Expr.Compare _ _ _ _) _ _); first | refine jt_cmp (nomark _) ?_ | refine jt_chain (by with_unfolding_all rfl) ?_)
  | ((with_reducible show JT _ _ (Expr.BoolOp _ _ _) _ _); refine jw_t ?_)
  | ((with_reducible show JT _ _ (Expr.UnaryOp _ _ _) _ _); refine jt_not ?_)
  | refine jt_val ?_ (fun _ _ => rfl))
local macro_rules | `(tactic| k_clsL) => `(tactic| first
  | refine jw_and1 ?_
  | refine jw_or1 ?_
  | refine jw_and ?_
  | refine jw_or ?_)
local macro_rules | `(tactic| kct_strs) => `(tactic| first
  | (with_reducible refine od_add ?_)
  | (with_reducible refine od_sub ?_)
  | ((with_reducible show OpD _ _ (binaryOp Operator.Mult) _ _ _); refine od_mul (by lcg_src) ?_)
  | ((with_reducible show OpD _ _ (binaryOp Operator.Mod) _ _ _); refine od_mod (by lcg_sub) ?_)
  | ((with_reducible show OpD _ _ (binaryOp Operator.FloorDiv) _ _ _); refine od_fdiv (by lcg_sub) (by nest_cls) ?_)
  | ((with_reducible show OpD _ _ (binaryOp Operator.Pow) _ _ _); first | (with_reducible refine od_p10_3 ?_) | (with_reducible refine od_p10_6 ?_) | (with_reducible refine od_p10_9 ?_) | (with_reducible refine od_p10_12 ?_) | (with_reducible refine od_p10_18 ?_) | (with_reducible refine od_p10_19 ?_) | (with_reducible refine od_p10_20 ?_) | (with_reducible refine od_p10_30 ?_) | (with_reducible refine od_p10_39 ?_) | (with_reducible refine od_p10_40 ?_) | (with_reducible refine od_p10_64 ?_))
  | (with_reducible refine od_eq ?_)
  | (with_reducible refine od_ne ?_)
  | (with_reducible refine od_lt ?_)
  | (with_reducible refine od_le ?_)
  | (with_reducible refine od_gt ?_)
  | (with_reducible refine od_ge ?_)
  | (with_reducible refine od_eqS ?_)
  | (with_reducible refine od_neS ?_)
  | (with_reducible refine od_eqB ?_)
  | (with_reducible refine od_isN ?_)
  | (with_reducible refine od_notN ?_)
  | ((with_reducible show OpD _ _ (binaryOp Operator.Add) (D.lst _) (D.lst _) _); refine of_od (of_cat (by lcg_sub) ?_))
  | (with_reducible refine od_iadd ?_)
  | (with_reducible refine od_isub ?_))
local macro_rules | `(tactic| kd_addB) => `(tactic| first
  | (with_reducible refine cd_lenL ?_)
  | (with_reducible refine cd_lenT ?_)
  | (with_reducible refine cd_int ?_)
  | (with_reducible refine cd_intB ?_)
  | (with_reducible refine cd_abs ?_)
  | (with_reducible refine cd_max ?_)
  | (with_reducible refine cd_min ?_)
  | (with_reducible refine ci_bool (by with_unfolding_all rfl) ?_)
  | (with_reducible refine ci_int (by with_unfolding_all rfl) ?_)
  | (with_reducible refine ci_str (by with_unfolding_all rfl) ?_)
  | (with_reducible refine ci_tup (by with_unfolding_all rfl) ?_)
  | (with_reducible refine ci_lst (by with_unfolding_all rfl) ?_)
  | (with_reducible refine ci_dict (by with_unfolding_all rfl) ?_))
local macro_rules | `(tactic| kd_addW) => `(tactic| first
  | refine zs_ret ?_
  | refine zs_if ?_
  | refine zs_set (by ktu_offI) ?_
  | refine zs_append (by ktu_offI) (by rfl) ?_
  | refine zs_expr ?_
  | refine zs_aug (by ktu_offI) (by rfl) ?_
  | refine zs_par (by ktu_offI) (by ktu_offI) (by decide) (by decide +kernel) (by decide +kernel) ?_ (fun env h => by cases env; cases h; rfl)
  | refine zs_stoPut ?_
  | refine zs_asg ?_)
local macro_rules | `(tactic| kcj_in) => `(tactic| first
  | refine zg_name (by ktu_offI) ?_
  | refine jg_tup (by rfl) ?_)
local macro_rules | `(tactic| krn_off) => `(tactic| first
  | refine L2.iteT ?_
  | refine L2.iteF ?_
  | refine ite_dT (by lcg_sub) ?_
  | refine ite_dF (by lcg_sub) ?_
  | refine ite_ndT (by lcg_sub) ?_
  | refine ite_ndF (by lcg_sub) ?_)
local macro_rules | `(tactic| kas_types) => `(tactic| first
  | ((with_reducible show JE _ _ _ _ _); k_offL)
  | ((with_reducible show OpD _ _ _ _ _ _); kct_strs)
  | ((with_reducible show JSs _ _ _ _ _); first | refine zs_one ?_ | refine zs_cons ?_ | refine zs_nil ?_)
  | ((with_reducible show JS _ _ _ _ _); kd_addW)
  | ((with_reducible show JT _ _ _ _ _); k_subL)
  | ((with_reducible show JW _ _ _ _ _); k_clsL)
  | ((with_reducible show IxD _ _ _ _ _); first | refine ixd_tup (by rfl) ?_ | refine ixd_lst (by rfl) ?_)
  | ((with_reducible show UnD _ _ _ _ _); refine ud_neg ?_)
  | ((with_reducible show JA _ _ _ _ _); first | refine ja_nil ?_ | refine ja_cons (fun _ => rfl) ?_)
  | ((with_reducible show isBl _ _); refine isBl_mk ?_)
  | ((with_reducible show CallD _ _ _ _ _); kd_addB)
  | ((with_reducible show CallF _ _ _ _ _); first | refine cf_list ?_ | refine cf_listT ?_)
  | ((with_reducible show JG _ _ _ _ _ _); kcj_in)
  | ((with_reducible show JGs _ _ _ _ _ _); first | refine jgs_nil ?_ | refine jgs_cons ?_)
  | ((with_reducible show (if _ then _ else _ : Prop)); krn_off)
  | ((with_reducible show _ ≤ sizeLine ∧ _); refine And.intro (by first | exact (by decide : _ ≤ sizeLine) | (simp; done) | (simp; decide)) ?_)
  | ((with_reducible show flatD _ ∧ _); refine And.intro (by simp [flatD, flatL]) ?_)
  | ((with_reducible show ∃ c, D.sto _ = D.sto c ∧ _); refine Exists.intro _ (And.intro rfl ?_))
  | ((with_reducible show StoGet _ _ _); first | refine sg_restB (fun r h1 h2 => ?_) | refine sg_left (fun r h1 => ?_) | refine sg_at (fun r h1 h2 => ?_) | refine sg_turn (fun r => ?_) | refine sg_seed (fun r => ?_) | refine sg_cells ?_)
  | lsm_bools)
local macro_rules | `(tactic| kat_tups) => `(tactic| repeat kas_types)
local macro_rules | `(tactic| kas_types) => `(tactic| first
  | ((with_reducible show JTs _ _ _ _ _); first | refine jts_nil ?_ | refine jts_one ?_)
  | ((with_reducible show JGW _ _ _ _ _ _ _); first | refine jgw_name (Has.mem (by ktu_offI)) (by decide) ?_ | refine jgw_tup rfl ?_)
  | ((with_reducible show JGWs _ _ _ _ _ _ _); first | refine jgws_nil ?_ | refine jgws_cons ?_))
/-! _law_couple -/
inductive cCouple : List D → (D → Prop) → EK → Prop
  | mk {P : D → Prop} {E : EK} (cells : List Int) (hl : cells.length ≤ 63) (k : ∀ a b c d : Int, Fr (a, b) → Fr (c, d) → P (.tup [fr (a, b), fr (c, d)])) : cCouple [.sto cells] P E
abbrev S_couple : Scp := { N := ["store", "kind", "x", "c", "sign"], sc := defScope (top 30), vs := [("store", 0), ("kind", 1), ("x", 2), ("c", 3), ("sign", 4)], ss := [("store", 0), ("kind", 1), ("x", 2), ("c", 3), ("sign", 4)], gl := ["_law_take", "_law_fraction", "_law_pick"], lv := 6 }
theorem gcd_next (c : Int) : Int.gcd c (c + 1) = 1 := by
  have h : (Int.gcd c (c + 1) : Int) ∣ 1 := by
    have h1 : (Int.gcd c (c + 1) : Int) ∣ c + 1 := Int.gcd_dvd_right ..
    have h2 : (Int.gcd c (c + 1) : Int) ∣ c := Int.gcd_dvd_left ..
    exact (Int.dvd_add_right h2).mp h1
  have h0 : 0 < Int.gcd c (c + 1) := Nat.pos_of_ne_zero fun z => by
    have := Int.gcd_eq_zero_iff.mp z
    omega
  have := Int.le_of_dvd (by decide) h
  omega
theorem frN {s c : Int} (hs : s = 1 ∨ s = -1) (h1 : 1 ≤ c) (h2 : c < 9999999999999999999999999999999999999999) : Fr (s * c, c + 1) := by
  refine ⟨show 0 < c + 1 by omega, ?_, ?_, show Bd 133 (c + 1) from bd40 (by omega) (by omega)⟩
  · rcases hs with rfl | rfl
    · simpa using gcd_next c
    · simpa [Int.neg_gcd] using gcd_next c
  · rcases hs with rfl | rfl
    · exact bd40 (by omega) (by omega)
    · exact bd40 (by omega) (by omega)
theorem frU {s c : Int} (hs : s = 1 ∨ s = -1) (h1 : 1 ≤ c) (h2 : c < 9999999999999999999999999999999999999999) : Fr (s, c) := by
  refine ⟨show 0 < c by omega, ?_, ?_, show Bd 133 c from bd40 (by omega) (by omega)⟩
  · rcases hs with rfl | rfl
    · simp
    · simp
  · rcases hs with rfl | rfl
    · exact show Bd 133 1 from bd40 (by decide) (by decide)
    · exact show Bd 133 (-1) from bd40 (by decide) (by decide)
theorem Fr.neg {a b : Int} (h : Fr (a, b)) : Fr (-a, b) := ⟨h.1, by have := h.2.1; simpa [Int.neg_gcd] using this, h.2.2.1.neg, h.2.2.2⟩
local macro_rules | `(tactic| lsm_bools) => `(tactic| first | refine cTake.mk _ (by assumption) _ (fun v h1 h2 => ?_) | refine cFrac.mk _ (by assumption) (fun a b h1 => ?_) | refine cBetween.mk _ (by assumption) _ _ (fun v h1 h2 => ?_))
theorem b_couple {U : Env1} (F1 : U.Def "_law_take" 3 [] cTake) (F2 : U.Def "_law_pick" 4 [] cPick) (F3 : U.Def "_law_fraction" 6 [] cFrac) (G H : Hp) (ds) (P) (E) (h : cCouple ds P E) : JSs S_couple (U.cg G H fun _ => E) (defBody (top 30)) (startD S_couple.N ds) { nx := fun _ => P .non, rt := P } := by
  obtain ⟨cells, hl, k⟩ := h
  kat_tups
  rename_i v _ _ a b hf
  refine ite_d (fun h1 => ?_) (fun h1 => ?_)
  · kat_tups
    exact k _ _ _ _ hf hf
  kat_tups
  refine ite_d (fun h2 => ?_) (fun h2 => ?_)
  · kat_tups
    exact k _ _ _ _ hf hf.neg
  kat_tups
  refine ite_d (fun h3 => ?_) (fun h3 => ?_)
  · refine zs_cut fun Q hQ => ?_
    have hq : ∀ c : Int, 2 ≤ c → c ≤ 9999999999999999999999999999999999999997 → Q [.fz (.sto cells), .fz (.int v), .fz (fr (a, b)), .fz (.int c), .no] := by
      intro c c1 c2
      refine hQ _ ?_
      kat_tups
      rename_i u u1 u2
      have hs : 1 - 2 * u = 1 ∨ 1 - 2 * u = -1 := by omega
      refine cPick.mk _ (by assumption) _ (by simp) (by simp) ⟨?_, ?_, trivial⟩
      · kat_tups
        exact k _ _ _ _ (frN hs (by omega) (by omega)) (by have := frN hs (show 1 ≤ c + 1 by omega) (by omega); rwa [Int.add_assoc] at this)
      · kat_tups
        exact k _ _ _ _ (frU hs (by omega) (by omega)) (frU hs (by omega) (by omega))
    kat_tups
    refine cPick.mk _ (by assumption) _ (by decide) (by decide) ⟨?_, ?_, ?_, trivial⟩
    all_goals
      kat_tups
      exact hq _ (by omega) (by omega)
  · kat_tups
    exact k _ _ _ _ hf (by assumption)
/-! _law_items -/
inductive cItems : List D → (D → Prop) → EK → Prop
  | mk {P : D → Prop} {E : EK} (cells : List Int) (hl : cells.length ≤ 63) (k : ∀ xs : List (Int × Int), xs.length ≤ 100 → (∀ x ∈ xs, Fr x) → P (.lst (xs.map fr))) : cItems [.sto cells] P E
abbrev S_items : Scp := { N := ["store", "kind", "out", "k", "x"], sc := defScope (top 31), vs := [("store", 0), ("kind", 1), ("out", 2)], ss := [("store", 0), ("kind", 1), ("out", 2)], gl := ["_law_take", "range", "_law_between"], lv := 6 }
def sc0 : Scope := (defScope (top 31))
/-- a comprehension that makes fractions -/
abbrev ItA (i : Nat) (acc : List D) : Prop := ∃ xs : List (Int × Int), acc = xs.map fr ∧ xs.length = i ∧ ∀ x ∈ xs, Fr x
theorem ItA.next {i : Nat} {acc : List D} {a b : Int} (h : ItA i acc) (f : Fr (a, b)) : ItA (i + 1) (acc ++ [fr (a, b)]) := by
  obtain ⟨xs, rfl, rfl, h⟩ := h
  refine ⟨xs ++ [(a, b)], by simp, by simp, fun x hx => ?_⟩
  rcases List.mem_append.mp hx with hx | hx
  · exact h x hx
  · rw [List.mem_singleton] at hx
    subst hx
    exact f
theorem ItA.len {i : Nat} {acc : List D} (h : ItA i acc) : acc.length = i := by
  obtain ⟨xs, rfl, rfl, h⟩ := h
  simp
theorem b_items {U : Env1} (hB : Blt U ["range"]) (F1 : U.Def "_law_take" 3 [] cTake) (F2 : U.Def "_law_fraction" 6 [] cFrac) (F3 : U.Def "_law_small" 5 [] cFrac) (F4 : U.Def "_law_between" 4 [] cBetween) (G H : Hp) (ds) (P) (E) (h : cItems ds P E) : JSs S_items (U.cg G H fun _ => E) (defBody (top 31)) (startD S_items.N ds) { nx := fun _ => P .non, rt := P } := by
  obtain ⟨cells, hl, k⟩ := h
  kat_tups
  refine ite_d (fun h1 => ?_) (fun h1 => ?_)
  · kat_tups
    refine jf_je (jf_lc (S' := { N := S_items.N, sc := relS _ S_items.sc, vs := [("store", 0), ("k", 3)], ss := [("k", 3)], gl := ["_law_fraction"], lv := 6 }) (own := [("k", 3)]) (ok_B (by decide +kernel) (by decide +kernel) rfl rfl rfl (by decide +kernel)) (zi_rng1 (by ktu_offL) (by lcg_off) (fun _ => rfl) ?_))
    kat_tups
    refine ⟨100, rfl, by decide, by decide, ItA, ⟨[], rfl, rfl, by simp⟩, ?_, ?_⟩
    · intro i acc hi ha
      kat_tups
      have := ha.len
      have hs : (100 : Int).toNat = 100 := rfl
      refine ⟨?_, ha.next (by assumption)⟩
      have h2 : 100 < sizeLine := by decide
      omega
    · rintro acc ⟨xs, rfl, hn, hx⟩
      exact k xs (by rw [hn]; decide) hx
  kat_tups
  refine ite_d (fun h2 => ?_) (fun h2 => ?_)
  · kat_tups
    refine jf_je (jf_lc (S' := { N := S_items.N, sc := relS _ S_items.sc, vs := [("store", 0), ("k", 3)], ss := [("k", 3)], gl := ["_law_small"], lv := 6 }) (own := [("k", 3)]) (ok_B (by decide +kernel) (by decide +kernel) rfl rfl rfl (by decide +kernel)) (zi_rng1 (by ktu_offL) (by lcg_off) (fun _ => rfl) ?_))
    kat_tups
    refine ⟨100, rfl, by decide, by decide, ItA, ⟨[], rfl, rfl, by simp⟩, ?_, ?_⟩
    · intro i acc hi ha
      kat_tups
      have := ha.len
      have hs : (100 : Int).toNat = 100 := rfl
      refine ⟨?_, ha.next (by assumption)⟩
      have h2 : 100 < sizeLine := by decide
      omega
    · rintro acc ⟨xs, rfl, hn, hx⟩
      exact k xs (by rw [hn]; decide) hx
  kat_tups
  refine zs_setLc (S' := { N := S_items.N, sc := relS _ S_items.sc, vs := [("store", 0), ("k", 3)], ss := [("k", 3)], gl := ["_law_fraction"], lv := 6 }) (own := [("k", 3)]) (by ktu_offI) (ok_B (by decide +kernel) (by decide +kernel) rfl rfl rfl (by decide +kernel)) (by decide +kernel) (zi_rng1 (by ktu_offL) (by lcg_off) (fun _ => rfl) ?_)
  kat_tups
  rename_i v v1 v2
  refine ⟨v, rfl, by omega, by omega, ItA, ⟨[], rfl, rfl, by simp⟩, ?_, ?_⟩
  · intro i acc hi ha
    kat_tups
    have := ha.len
    refine ⟨?_, ha.next (by assumption)⟩
    have h2 : 100 < sizeLine := by decide
    omega
  rintro acc ⟨xs, rfl, hn, hx⟩
  kat_tups
  refine ite_d (fun h3 => ?_) (fun h3 => ?_)
  · kat_tups
    refine jf_je (jf_lc (S' := { N := S_items.N, sc := relS _ S_items.sc, vs := [("x", 4)], ss := [("x", 4)], gl := [], lv := 6 }) (own := [("x", 4)]) (ok_B (by decide +kernel) (by decide +kernel) rfl rfl rfl (by decide +kernel)) (ji_list ?_))
    kat_tups
    refine ⟨_, rfl, ItA, ⟨[], rfl, rfl, by simp⟩, ?_, ?_⟩
    · intro i acc hi ha
      rw [List.length_map] at hi
      have hg := List.getElem?_eq_getElem hi
      rw [atD_map hg]
      have hf : Fr (xs[i].1, xs[i].2) := hx _ (List.getElem_mem _)
      kat_tups
      have := ha.len
      refine ⟨?_, ha.next hf.neg⟩
      have h2 : 100 < sizeLine := by decide
      omega
    · rintro acc ⟨ys, rfl, hm, hy⟩
      rw [List.length_map] at hm
      have h2 : 100 < sizeLine := by decide
      refine of_od (of_cat (by simp; omega) ?_)
      kat_tups
      rw [← List.map_append]
      refine k _ (by simp; omega) (fun x hx' => ?_)
      rcases List.mem_append.mp hx' with q | q
      · exact hx x q
      · exact hy x q
  · kat_tups
    exact k _ (by omega) hx
end Z
set_option Elab.async false
set_option linter.all false
set_option maxRecDepth 100000
set_option maxHeartbeats 4000000
namespace Z
open PySem L2
local macro_rules | `(tactic| lsm_bools) => `(tactic| fail)
local macro_rules | `(tactic| ktu_offI) => `(tactic| with_reducible (first | exact Has.head | (apply Has.tail; ktu_offI)))
local macro_rules | `(tactic| ktu_offL) => `(tactic| with_reducible (first | exact HasG.head | (apply HasG.tail; ktu_offL)))
local macro_rules | `(tactic| lcg_off) => `(tactic| exact Blt.h (by assumption) _ (by ktu_offL))
local macro_rules | `(tactic| lcg_sub) => `(tactic| first | assumption | omega | decide +kernel)
local macro_rules | `(tactic| lcg_src) => `(tactic| first | exact Bd.ok (n := 3000) (m := 3000) (by unfold Bd; decide +kernel) (by unfold Bd; decide +kernel) (by decide) | exact mulok_r (by omega) | exact mulok_l (by omega) | exact Bd.ok (by mem_news) (by mem_news) (by omega))
local macro_rules | `(tactic| mem_news) => `(tactic| with_reducible (first | assumption | exact Bd.neg (by mem_news) | exact Bd.mul (by mem_news) (by mem_news) | exact Bd.add (by mem_news) (by mem_news) | exact Bd.sub (by mem_news) (by mem_news)))
local macro_rules | `(tactic| nest_cls) => `(tactic| first | exact PyProof.noPylong_small (by decide) | exact nopy_i (by mem_news) (by omega) | exact nopy_j (by mem_news) (by omega))
local macro_rules | `(tactic| k_offL) => `(tactic| first
  | (with_reducible show JE _ _ (Expr.Name _ _) _ _
     first
     | refine ze_name (by ktu_offI) (by rfl) ?_
     | refine zt_int (by ktu_offL) (by lcg_off) ?_
     | refine zt_bool (by ktu_offL) (by lcg_off) ?_
     | refine zt_str (by ktu_offL) (by lcg_off) ?_
     | refine zt_tuple (by ktu_offL) (by lcg_off) ?_
     | refine zt_list (by ktu_offL) (by lcg_off) ?_
     | refine zt_dict (by ktu_offL) (by lcg_off) ?_)
  | (with_reducible show JE _ _ (Expr.Constant _ _ _) _ _
     first | refine je_int ?_ | refine je_str ?_ | refine je_bl ?_ | refine je_non ?_)
  | (with_reducible show JE _ _ (Expr.Subscript _ _ _) _ _
     first
     | refine je_stoGet ?_
     | refine je_ix (fun _ _ => rfl) ?_)
  | (with_reducible show JE _ _ (Expr.BinOp _ _ _ _) _ _
     refine je_bin ?_)
  | (with_reducible show JE _ _ (Expr.Call _ _ _ _) _ _
     first
     | refine ze_own (by ktu_offI) (by rfl) ?_
     | refine ze_call (by assumption) (by first | decide | exact Nat.le_refl _) (by ktu_offL) ?_
     | refine zb_len (by ktu_offL) (by lcg_off) ?_
     | refine zb_int (by ktu_offL) (by lcg_off) ?_
     | refine zb_abs (by ktu_offL) (by lcg_off) ?_
     | refine zb_isi (by ktu_offL) (by lcg_off) ?_
     | refine zb_max (by ktu_offL) (by lcg_off) ?_
     | refine zb_min (by ktu_offL) (by lcg_off) ?_
     | refine zb_list (by ktu_offL) (by lcg_off) ?_)
  | (with_reducible show JE _ _ (Expr.Tuple _ _ _) _ _
     refine je_tup ?_)
  | (with_reducible show JE _ _ (Expr.UnaryOp _ _ _) _ _
     first | refine je_not ?_ | refine je_un ?_)
  | (with_reducible show JE _ _ (Expr.Compare _ _ _ _) _ _
     first | refine je_cmp (nomark _) ?_ | refine je_chain (by with_unfolding_all rfl) ?_)
  | (with_reducible show JE _ _ (Expr.BoolOp _ _ _) _ _
     first | refine je_one ?_ | refine je_and ?_ | refine je_or ?_)
  | (with_reducible show JE _ _ (Expr.IfExp _ _ _ _) _ _
     refine je_if ?_)
  | (with_reducible show JE _ _ (Expr.List _ _) _ _
     refine jf_je (jf_lst ?_)))
local macro_rules | `(tactic| k_subL) => `(tactic| first
  | ((with_reducible show JT _ _ (Expr.Compare _ _ _ _) _ _); first | refine jt_cmp (nomark _) ?_ | refine jt_chain (by with_unfolding_all rfl) ?_)
  | ((with_reducible show JT _ _ (Expr.BoolOp _ _ _) _ _); refine jw_t ?_)
  | ((with_reducible show JT _ _ (Expr.UnaryOp _ _ _) _ _); refine jt_not ?_)
  | refine jt_val ?_ (fun _ _ => rfl))
local macro_rules | `(tactic| k_clsL) => `(tactic| first
  | refine jw_and1 ?_
  | refine jw_or1 ?_
  | refine jw_and ?_
  | refine jw_or ?_)
local macro_rules | `(tactic| kct_strs) => `(tactic| first
  | (with_reducible refine od_add ?_)
  | (with_reducible refine od_sub ?_)
  | ((with_reducible show OpD _ _ (binaryOp Operator.Mult) _ _ _); refine od_mul (by lcg_src) ?_)
  | ((with_reducible show OpD _ _ (binaryOp Operator.Mod) _ _ _); refine od_mod (by lcg_sub) ?_)
  | ((with_reducible show OpD _ _ (binaryOp Operator.FloorDiv) _ _ _); refine od_fdiv (by lcg_sub) (by nest_cls) ?_)
  | ((with_reducible show OpD _ _ (binaryOp Operator.Pow) _ _ _); first | (with_reducible refine od_p10_3 ?_) | (with_reducible refine od_p10_6 ?_) | (with_reducible refine od_p10_9 ?_) | (with_reducible refine od_p10_12 ?_) | (with_reducible refine od_p10_18 ?_) | (with_reducible refine od_p10_19 ?_) | (with_reducible refine od_p10_20 ?_) | (with_reducible refine od_p10_30 ?_) | (with_reducible refine od_p10_39 ?_) | (with_reducible refine od_p10_40 ?_) | (with_reducible refine od_p10_64 ?_))
  | (with_reducible refine od_eq ?_)
  | (with_reducible refine od_ne ?_)
  | (with_reducible refine od_lt ?_)
  | (with_reducible refine od_le ?_)
  | (with_reducible refine od_gt ?_)
  | (with_reducible refine od_ge ?_)
  | (with_reducible refine od_eqS ?_)
  | (with_reducible refine od_neS ?_)
  | (with_reducible refine od_eqB ?_)
  | (with_reducible refine od_isN ?_)
  | (with_reducible refine od_notN ?_)
  | ((with_reducible show OpD _ _ (binaryOp Operator.Add) (D.lst _) (D.lst _) _); refine of_od (of_cat (by lcg_sub) ?_))
  | (with_reducible refine od_iadd ?_)
  | (with_reducible refine od_isub ?_))
local macro_rules | `(tactic| kd_addB) => `(tactic| first
  | (with_reducible refine cd_lenL ?_)
  | (with_reducible refine cd_lenT ?_)
  | (with_reducible refine cd_int ?_)
  | (with_reducible refine cd_intB ?_)
  | (with_reducible refine cd_abs ?_)
  | (with_reducible refine cd_max ?_)
  | (with_reducible refine cd_min ?_)
  | (with_reducible refine ci_bool (by with_unfolding_all rfl) ?_)
  | (with_reducible refine ci_int (by with_unfolding_all rfl) ?_)
  | (with_reducible refine ci_str (by with_unfolding_all rfl) ?_)
  | (with_reducible refine ci_tup (by with_unfolding_all rfl) ?_)
  | (with_reducible refine ci_lst (by with_unfolding_all rfl) ?_)
  | (with_reducible refine ci_dict (by with_unfolding_all rfl) ?_))
local macro_rules | `(tactic| kd_addW) => `(tactic| first
  | refine zs_ret ?_
  | refine zs_if ?_
  | refine zs_set (by ktu_offI) ?_
  | refine zs_append (by ktu_offI) (by rfl) ?_
  | refine zs_expr ?_
  | refine zs_aug (by ktu_offI) (by rfl) ?_
  | refine zs_par (by ktu_offI) (by ktu_offI) (by decide) (by decide +kernel) (by decide +kernel) ?_ (fun env h => by cases env; cases h; rfl)
  | refine zs_stoPut ?_
  | refine zs_asg ?_)
local macro_rules | `(tactic| kcj_in) => `(tactic| first
  | refine zg_name (by ktu_offI) ?_
  | refine jg_tup (by rfl) ?_)
local macro_rules | `(tactic| krn_off) => `(tactic| first
  | refine L2.iteT ?_
  | refine L2.iteF ?_
  | refine ite_dT (by lcg_sub) ?_
  | refine ite_dF (by lcg_sub) ?_
  | refine ite_ndT (by lcg_sub) ?_
  | refine ite_ndF (by lcg_sub) ?_)
local macro_rules | `(tactic| kas_types) => `(tactic| first
  | ((with_reducible show JE _ _ _ _ _); k_offL)
  | ((with_reducible show OpD _ _ _ _ _ _); kct_strs)
  | ((with_reducible show JSs _ _ _ _ _); first | refine zs_one ?_ | refine zs_cons ?_ | refine zs_nil ?_)
  | ((with_reducible show JS _ _ _ _ _); kd_addW)
  | ((with_reducible show JT _ _ _ _ _); k_subL)
  | ((with_reducible show JW _ _ _ _ _); k_clsL)
  | ((with_reducible show IxD _ _ _ _ _); first | refine ixd_tup (by rfl) ?_ | refine ixd_lst (by rfl) ?_)
  | ((with_reducible show UnD _ _ _ _ _); refine ud_neg ?_)
  | ((with_reducible show JA _ _ _ _ _); first | refine ja_nil ?_ | refine ja_cons (fun _ => rfl) ?_)
  | ((with_reducible show isBl _ _); refine isBl_mk ?_)
  | ((with_reducible show CallD _ _ _ _ _); kd_addB)
  | ((with_reducible show CallF _ _ _ _ _); first | refine cf_list ?_ | refine cf_listT ?_)
  | ((with_reducible show JG _ _ _ _ _ _); kcj_in)
  | ((with_reducible show JGs _ _ _ _ _ _); first | refine jgs_nil ?_ | refine jgs_cons ?_)
  | ((with_reducible show (if _ then _ else _ : Prop)); krn_off)
  | ((with_reducible show _ ≤ sizeLine ∧ _); refine And.intro (by first | exact (by decide : _ ≤ sizeLine) | (simp; done) | (simp; decide)) ?_)
  | ((with_reducible show flatD _ ∧ _); refine And.intro (by simp [flatD, flatL]) ?_)
  | ((with_reducible show ∃ c, D.sto _ = D.sto c ∧ _); refine Exists.intro _ (And.intro rfl ?_))
  | ((with_reducible show StoGet _ _ _); first | refine sg_restB (fun r h1 h2 => ?_) | refine sg_left (fun r h1 => ?_) | refine sg_at (fun r h1 h2 => ?_) | refine sg_turn (fun r => ?_) | refine sg_seed (fun r => ?_) | refine sg_cells ?_)
  | lsm_bools)
local macro_rules | `(tactic| kat_tups) => `(tactic| repeat kas_types)
/-! _law_same, of two that are alike -/
def Fl0 : D → Prop
  | .non => True | .bl _ => True | .int _ => True | .str _ => True | _ => False
def Dp : Nat → D → Prop
  | 0, d => Fl0 d
  | k + 1, d => Fl0 d ∨ ∃ ds, (d = .tup ds ∨ d = .lst ds) ∧ ds.length ≤ 100000 ∧ ∀ e ∈ ds, Dp k e
inductive cSame (j : Nat) : List D → (D → Prop) → EK → Prop
  | mk {P : D → Prop} {E : EK} (d : D) (h : Dp j d) (k : P (.bl true)) : cSame j [d, d] P E
abbrev S_same (j : Nat) : Scp := { N := ["actual", "expected", "key", "k"], sc := defScope (top 27), vs := [("actual", 0), ("expected", 1), ("key", 2), ("k", 3)], ss := [("actual", 0), ("expected", 1), ("key", 2), ("k", 3)], gl := ["isinstance", "bool", "int", "str", "dict", "len", "_law_same", "list", "tuple", "range"], lv := j + 1 }
theorem b_same {U : Env1} (hB : Blt U ["isinstance", "bool", "int", "str", "dict", "len", "list", "tuple", "range"]) (j : Nat) (F1 : ∀ i, j = i + 1 → U.Def "_law_same" (i + 2) [] (cSame i)) (G H : Hp) (ds) (P) (E) (h : cSame j ds P E) : JSs (S_same j) (U.cg G H fun _ => E) (defBody (top 27)) (startD (S_same j).N ds) { nx := fun _ => P .non, rt := P } := by
  obtain ⟨d, hd, k⟩ := h
  have hd' : Fl0 d ∨ ∃ i ds, j = i + 1 ∧ (d = .tup ds ∨ d = .lst ds) ∧ ds.length ≤ 100000 ∧ ∀ e ∈ ds, Dp i e := by
    cases j with
    | zero => exact .inl hd
    | succ i =>
      rcases hd with hd | ⟨ds, h1, h2, h3⟩
      · exact .inl hd
      · exact .inr ⟨i, ds, rfl, h1, h2, h3⟩
  rcases hd' with hf | ⟨i, ds, rfl, h1, h2, h3⟩
  · cases d with
    | non => kat_tups; first | exact k | simpa using k
    | bl b => kat_tups; first | exact k | simpa using k
    | int b => kat_tups; first | exact k | simpa using k
    | str b => kat_tups; first | exact k | simpa using k
    | _ => exact hf.elim
  · have F := F1 i rfl
    rcases h1 with rfl | rfl
    · kat_tups
      refine zs_for rfl (zi_rng1 (by ktu_offL) (by lcg_off) (fun _ => rfl) ?_)
      kat_tups
      refine ⟨(ds.length : Int), rfl, by omega, by omega, fun i' δ' => ∃ s1 s2 : Sl, δ' = [.fz (.tup ds), .fz (.tup ds), s1, s2], ⟨_, _, rfl⟩, ?_, ?_⟩
      · intro i' hi
        refine turns_of ?_
        rintro δ' ⟨s1, s2, rfl⟩
        obtain ⟨d, hd1, e⟩ := atI_some (ds := ds) (k := 0 + (i' : Int)) (by omega) (by omega)
        kat_tups
        refine ixd_tup e ?_
        kat_tups
        refine ixd_tup e ?_
        kat_tups
        refine cSame.mk d (h3 d hd1) ?_
        kat_tups
        exact ⟨_, _, rfl⟩
      · rintro δ' ⟨s1, s2, rfl⟩
        kat_tups
        exact k
    · kat_tups
      refine zs_for rfl (zi_rng1 (by ktu_offL) (by lcg_off) (fun _ => rfl) ?_)
      kat_tups
      refine ⟨(ds.length : Int), rfl, by omega, by omega, fun i' δ' => ∃ s1 s2 : Sl, δ' = [.fz (.lst ds), .fz (.lst ds), s1, s2], ⟨_, _, rfl⟩, ?_, ?_⟩
      · intro i' hi
        refine turns_of ?_
        rintro δ' ⟨s1, s2, rfl⟩
        obtain ⟨d, hd1, e⟩ := atI_some (ds := ds) (k := 0 + (i' : Int)) (by omega) (by omega)
        kat_tups
        refine ixd_lst e ?_
        kat_tups
        refine ixd_lst e ?_
        kat_tups
        refine cSame.mk d (h3 d hd1) ?_
        kat_tups
        exact ⟨_, _, rfl⟩
      · rintro δ' ⟨s1, s2, rfl⟩
        kat_tups
        exact k
/-! _law_is_integer, _law_is_fraction, _law_ratio -/
inductive cIsInt : List D → (D → Prop) → EK → Prop
  | mk {P : D → Prop} {E : EK} (i : Int) (k : P (.bl true)) : cIsInt [.int i] P E
abbrev S_isint : Scp := { N := ["actual"], sc := defScope (top 28), vs := [("actual", 0)], ss := [("actual", 0)], gl := ["isinstance", "int", "bool"], lv := 1 }
theorem b_isint {U : Env1} (hB : Blt U ["isinstance", "int", "bool"]) (G H : Hp) (ds) (P) (E) (h : cIsInt ds P E) : JSs S_isint (U.cg G H fun _ => E) (defBody (top 28)) (startD S_isint.N ds) { nx := fun _ => P .non, rt := P } := by
  obtain ⟨i, k⟩ := h
  kat_tups
  exact k
inductive cIsFr : List D → (D → Prop) → EK → Prop
  | mk {P : D → Prop} {E : EK} (a b : Int) (hb : 0 < b) (hg : Int.gcd a b = 1) (k : P (.bl true)) : cIsFr [fr (a, b)] P E
abbrev S_isfr : Scp := { N := ["actual"], sc := defScope (top 29), vs := [("actual", 0)], ss := [("actual", 0)], gl := ["isinstance", "tuple", "len", "_law_is_integer", "_law_gcd"], lv := 2 }
local macro_rules | `(tactic| lsm_bools) => `(tactic| first | refine cIsInt.mk _ ?_ | refine cLgcd.mk _ _ ?_)
theorem b_isfr {U : Env1} (hB : Blt U ["isinstance", "tuple", "len"]) (F1 : U.Def "_law_is_integer" 2 [] cIsInt) (F2 : U.Def "_law_gcd" 2 [] cLgcd) (G H : Hp) (ds) (P) (E) (h : cIsFr ds P E) : JSs S_isfr (U.cg G H fun _ => E) (defBody (top 29)) (startD S_isfr.N ds) { nx := fun _ => P .non, rt := P } := by
  obtain ⟨a, b, hb, hg, k⟩ := h
  kat_tups
  rw [hg]
  exact k
inductive cRatio : List D → (D → Prop) → EK → Prop
  | mk {P : D → Prop} {E : EK} (a b n d : Int) (hb : 0 < b) (hg : Int.gcd a b = 1) (he : a * d = n * b) (k1 : Bd 40000 a) (k2 : Bd 40000 b) (k3 : Bd 40000 n) (k4 : Bd 40000 d) (k : P (.bl true)) : cRatio [fr (a, b), .int n, .int d] P E
abbrev S_ratio : Scp := { N := ["actual", "n", "d"], sc := defScope (top 32), vs := [("actual", 0), ("n", 1), ("d", 2)], ss := [("actual", 0), ("n", 1), ("d", 2)], gl := ["_law_is_fraction"], lv := 3 }
local macro_rules | `(tactic| lsm_bools) => `(tactic| refine cIsFr.mk _ _ (by assumption) (by assumption) ?_)
theorem b_ratio {U : Env1} (F1 : U.Def "_law_is_fraction" 3 [] cIsFr) (G H : Hp) (ds) (P) (E) (h : cRatio ds P E) : JSs S_ratio (U.cg G H fun _ => E) (defBody (top 32)) (startD S_ratio.N ds) { nx := fun _ => P .non, rt := P } := by
  obtain ⟨a, b, n, d, hb, hg, he, k1, k2, k3, k4, k⟩ := h
  kat_tups
  rw [decide_eq_true he]
  exact k
/-! _law_total -/
def totF (xs : List (Int × Int)) : Int × Int := xs.foldl (fun t x => (t.1 * x.2 + x.1 * t.2, t.2 * x.2)) (0, 1)
inductive cTotal : List D → (D → Prop) → EK → Prop
  | mk {P : D → Prop} {E : EK} (xs : List (Int × Int)) (hl : xs.length ≤ 101) (hx : ∀ x ∈ xs, Fr x) (k : P (fr (totF xs))) : cTotal [.lst (xs.map fr)] P E
theorem totF_ok {xs : List (Int × Int)} (hx : ∀ x ∈ xs, Fr x) : ∀ i, i ≤ xs.length → 0 < (totF (xs.take i)).2 ∧ Bd (135 * i) (totF (xs.take i)).1 ∧ Bd (133 * i + 1) (totF (xs.take i)).2
  | 0, _ => by
    simp only [List.take_zero]
    exact ⟨by decide, by unfold Bd; decide, by unfold Bd; decide⟩
  | i + 1, hi => by
    obtain ⟨h1, h2, h3⟩ := totF_ok hx i (by omega)
    have hg := List.getElem?_eq_getElem (show i < xs.length by omega)
    have e : totF (xs.take (i + 1)) = _ := foldl_take hg
    obtain ⟨y1, y2, y3, y4⟩ := hx xs[i] (List.getElem_mem _)
    rw [e]
    refine ⟨Int.mul_pos h1 y1, ?_, (h3.mul y4).mono (by omega)⟩
    by_cases z : i = 0
    · subst z
      exact (((show Bd 0 (0 : Int) by unfold Bd; decide).mul y4).add (y3.mul (show Bd 1 (1 : Int) by unfold Bd; decide))).mono (by omega)
    · exact ((h2.mul y4).add (y3.mul h3)).mono (by omega)
abbrev S_total : Scp := { N := ["items", "n", "d", "x"], sc := defScope (top 33), vs := [("items", 0), ("n", 1), ("d", 2), ("x", 3)], ss := [("items", 0), ("n", 1), ("d", 2), ("x", 3)], gl := [], lv := 1 }
theorem b_total {U : Env1} (G H : Hp) (ds) (P) (E) (h : cTotal ds P E) : JSs S_total (U.cg G H fun _ => E) (defBody (top 33)) (startD S_total.N ds) { nx := fun _ => P .non, rt := P } := by
  obtain ⟨xs, hl, hx, k⟩ := h
  kat_tups
  refine zs_for rfl (ji_list ?_)
  kat_tups
  refine ⟨_, rfl, fun i δ' => ∃ s, δ' = [.fz (.lst (xs.map fr)), .fz (.int (totF (xs.take i)).1), .fz (.int (totF (xs.take i)).2), s], ⟨_, rfl⟩, ?_, ?_⟩
  · intro i hi
    rw [List.length_map] at hi
    have hg := List.getElem?_eq_getElem hi
    rw [atD_map hg]
    refine turns_of ?_
    rintro δ' ⟨s, rfl⟩
    obtain ⟨h1, h2, h3⟩ := totF_ok hx i (by omega)
    obtain ⟨y1, y2, y3, y4⟩ := hx xs[i] (List.getElem_mem _)
    kat_tups
    exact ⟨_, by rw [show totF (xs.take (i + 1)) = _ from foldl_take hg]; rfl⟩
  · rintro δ' ⟨s, rfl⟩
    kat_tups
    rw [List.length_map, List.take_length] at *
    exact k
end Z
set_option Elab.async false
set_option linter.all false
namespace Z
open PySem L2
/-! what fractions in lowest terms do, in plain Lean -/
theorem dvd_cop {a b d : Int} (h : b ∣ a * d) (g : Int.gcd a b = 1) : b ∣ d := by
  rw [← Int.natAbs_dvd_natAbs] at h ⊢
  rw [Int.natAbs_mul] at h
  exact Nat.Coprime.dvd_of_dvd_mul_left (by unfold Nat.Coprime; rw [Nat.gcd_comm]; exact g) h
theorem low_uniq {a b c d : Int} (hb : 0 < b) (hd : 0 < d) (h1 : Int.gcd a b = 1) (h2 : Int.gcd c d = 1) (h : a * d = c * b) : a = c ∧ b = d := by
  have e1 : b ∣ d := by
    have : b ∣ a * d := ⟨c, by rw [h, Int.mul_comm]⟩
    exact dvd_cop this h1
  have e2 : d ∣ b := by
    have : d ∣ c * b := ⟨a, by rw [← h, Int.mul_comm]⟩
    exact dvd_cop this h2
  have hbd : b = d := Int.dvd_antisymm (Int.le_of_lt hb) (Int.le_of_lt hd) e1 e2
  subst hbd
  exact ⟨Int.eq_of_mul_eq_mul_right (by omega) h, rfl⟩
/-- a fraction in lowest terms that is n/d, with parts below 2^m -/
structure Lo (m : Nat) (p : Int × Int) (n d : Int) : Prop where
  den : 0 < p.2
  gcd : Int.gcd p.1 p.2 = 1
  cross : p.1 * d = n * p.2
  b1 : Bd m p.1
  b2 : Bd m p.2
theorem lo_part {m : Nat} {n d n' d' : Int} (h : d ≠ 0) (h1 : Bd m n) (h2 : Bd m d) (e : n * d' = n' * d) : Lo m (partF n d) n' d' := by
  refine ⟨partF_den h, partF_gcd h, ?_, h1.le (partF_le h).1, h2.le (partF_le h).2⟩
  have c := partF_cross (n := n) h
  have q : ((partF n d).1 * d') * d = (n' * (partF n d).2) * d := by grind
  exact Int.eq_of_mul_eq_mul_right h q
theorem lo_plus {x y : Int × Int} (hx : Fr x) (hy : Fr y) : Lo 270 (plusF x y) (x.1 * y.2 + y.1 * x.2) (x.2 * y.2) := by
  obtain ⟨x0, _, x1, x2⟩ := hx
  obtain ⟨y0, _, y1, y2⟩ := hy
  unfold plusF
  split
  · rename_i e
    refine lo_part (by omega) ((x1.add y1).mono (by omega)) (x2.mono (by omega)) (by rw [← e]; grind)
  · refine lo_part (Int.ne_of_gt (Int.mul_pos x0 y0)) (((x1.mul y2).add (y1.mul x2)).mono (by omega)) ((x2.mul y2).mono (by omega)) rfl
theorem lo_minus {x y : Int × Int} (hx : Fr x) (hy : Fr y) : Lo 270 (minusF x y) (x.1 * y.2 - y.1 * x.2) (x.2 * y.2) := by
  obtain ⟨x0, _, x1, x2⟩ := hx
  obtain ⟨y0, _, y1, y2⟩ := hy
  unfold minusF
  split
  · rename_i e
    refine lo_part (by omega) ((x1.sub y1).mono (by omega)) (x2.mono (by omega)) (by rw [← e]; grind)
  · refine lo_part (Int.ne_of_gt (Int.mul_pos x0 y0)) (((x1.mul y2).sub (y1.mul x2)).mono (by omega)) ((x2.mul y2).mono (by omega)) rfl
theorem lo_times {x y : Int × Int} (hx : Fr x) (hy : Fr y) : Lo 270 (timesF x y) (x.1 * y.1) (x.2 * y.2) := by
  obtain ⟨x0, _, x1, x2⟩ := hx
  obtain ⟨y0, _, y1, y2⟩ := hy
  exact lo_part (Int.ne_of_gt (Int.mul_pos x0 y0)) ((x1.mul y1).mono (by omega)) ((x2.mul y2).mono (by omega)) rfl
theorem lo_over {x y : Int × Int} (hx : Fr x) (hy : Fr y) (h : y.1 ≠ 0) : Lo 270 (overF x y) (x.1 * y.2) (x.2 * y.1) := by
  obtain ⟨x0, _, x1, x2⟩ := hx
  obtain ⟨y0, _, y1, y2⟩ := hy
  exact lo_part (Int.mul_ne_zero (by omega) h) ((x1.mul y2).mono (by omega)) ((x2.mul y1).mono (by omega)) rfl
theorem back_over {x y : Int × Int} (hx : Fr x) (hy : Fr y) (h : y.1 ≠ 0) : overF (timesF x y) y = x := by
  have t := lo_times hx hy
  have dn : (timesF x y).2 * y.1 ≠ 0 := Int.mul_ne_zero (Int.ne_of_gt t.den) h
  have hc := partF_cross (n := (timesF x y).1 * y.2) dn
  have q := low_uniq (partF_den (n := (timesF x y).1 * y.2) dn) hx.1 (partF_gcd dn) hx.2.1 (by
    have e := t.cross
    have w : ((partF ((timesF x y).1 * y.2) ((timesF x y).2 * y.1)).1 * x.2) * ((timesF x y).2 * y.1 * y.2) = (x.1 * (partF ((timesF x y).1 * y.2) ((timesF x y).2 * y.1)).2) * ((timesF x y).2 * y.1 * y.2) := by
      generalize (partF ((timesF x y).1 * y.2) ((timesF x y).2 * y.1)).1 = p at *
      generalize (partF ((timesF x y).1 * y.2) ((timesF x y).2 * y.1)).2 = r at *
      generalize (timesF x y).1 = t1 at *
      generalize (timesF x y).2 = t2 at *
      calc p * x.2 * (t2 * y.1 * y.2) = (p * (t2 * y.1)) * (x.2 * y.2) := by grind
        _ = (t1 * y.2 * r) * (x.2 * y.2) := by rw [hc]
        _ = (t1 * (x.2 * y.2)) * (y.2 * r) := by grind
        _ = (x.1 * y.1 * t2) * (y.2 * r) := by rw [e]
        _ = x.1 * r * (t2 * y.1 * y.2) := by grind
    exact Int.eq_of_mul_eq_mul_right (Int.mul_ne_zero dn (Int.ne_of_gt hy.1)) w)
  exact Prod.ext q.1 q.2
theorem back_times {x y : Int × Int} (hx : Fr x) (hy : Fr y) (h : y.1 ≠ 0) : timesF (overF x y) y = x := by
  have t := lo_over hx hy h
  have dn : (overF x y).2 * y.2 ≠ 0 := Int.mul_ne_zero (Int.ne_of_gt t.den) (Int.ne_of_gt hy.1)
  have hc := partF_cross (n := (overF x y).1 * y.1) dn
  have q := low_uniq (partF_den (n := (overF x y).1 * y.1) dn) hx.1 (partF_gcd dn) hx.2.1 (by
    have e := t.cross
    have w : ((partF ((overF x y).1 * y.1) ((overF x y).2 * y.2)).1 * x.2) * ((overF x y).2 * y.2 * y.1) = (x.1 * (partF ((overF x y).1 * y.1) ((overF x y).2 * y.2)).2) * ((overF x y).2 * y.2 * y.1) := by
      generalize (partF ((overF x y).1 * y.1) ((overF x y).2 * y.2)).1 = p at *
      generalize (partF ((overF x y).1 * y.1) ((overF x y).2 * y.2)).2 = r at *
      generalize (overF x y).1 = t1 at *
      generalize (overF x y).2 = t2 at *
      calc p * x.2 * (t2 * y.2 * y.1) = (p * (t2 * y.2)) * (x.2 * y.1) := by grind
        _ = (t1 * y.1 * r) * (x.2 * y.1) := by rw [hc]
        _ = (t1 * (x.2 * y.1)) * (y.1 * r) := by grind
        _ = (x.1 * y.2 * t2) * (y.1 * r) := by rw [e]
        _ = x.1 * r * (t2 * y.2 * y.1) := by grind
    exact Int.eq_of_mul_eq_mul_right (Int.mul_ne_zero dn h) w)
  exact Prod.ext q.1 q.2
theorem plusF_gcd {x y : Int × Int} (hx : 0 < x.2) (hy : 0 < y.2) : Int.gcd (plusF x y).1 (plusF x y).2 = 1 := by
  unfold plusF
  split
  · exact partF_gcd (by omega)
  · exact partF_gcd (Int.ne_of_gt (Int.mul_pos hx hy))
theorem plusF_cross {x y : Int × Int} (hx : 0 < x.2) (hy : 0 < y.2) : (plusF x y).1 * (x.2 * y.2) = (x.1 * y.2 + y.1 * x.2) * (plusF x y).2 := by
  unfold plusF
  split
  · rename_i e
    have c := partF_cross (n := x.1 + y.1) (d := x.2) (by omega)
    rw [← e]
    grind
  · exact partF_cross (Int.ne_of_gt (Int.mul_pos hx hy))
theorem sum_tot {xs : List (Int × Int)} (hx : ∀ x ∈ xs, Fr x) : ∀ i, i ≤ xs.length → Int.gcd (sumF (xs.take i)).1 (sumF (xs.take i)).2 = 1 ∧ (sumF (xs.take i)).1 * (totF (xs.take i)).2 = (totF (xs.take i)).1 * (sumF (xs.take i)).2
  | 0, _ => by simp [sumF, totF]
  | i + 1, hi => by
    obtain ⟨h1, h2⟩ := sum_tot hx i (by omega)
    have hg := List.getElem?_eq_getElem (show i < xs.length by omega)
    have e1 : sumF (xs.take (i + 1)) = plusF (sumF (xs.take i)) xs[i] := foldl_take hg
    have e2 : totF (xs.take (i + 1)) = ((totF (xs.take i)).1 * xs[i].2 + xs[i].1 * (totF (xs.take i)).2, (totF (xs.take i)).2 * xs[i].2) := foldl_take hg
    have y := hx xs[i] (List.getElem_mem _)
    have s := (sumF_ok (fun x h => ⟨(hx x h).1, (hx x h).2.2.1, (hx x h).2.2.2⟩) i (by omega)).1
    rw [e1, e2]
    refine ⟨plusF_gcd s y.1, ?_⟩
    have c := plusF_cross s y.1
    have w : ((plusF (sumF (xs.take i)) xs[i]).1 * ((totF (xs.take i)).2 * xs[i].2)) * (sumF (xs.take i)).2 = (((totF (xs.take i)).1 * xs[i].2 + xs[i].1 * (totF (xs.take i)).2) * (plusF (sumF (xs.take i)) xs[i]).2) * (sumF (xs.take i)).2 := by
      generalize (plusF (sumF (xs.take i)) xs[i]).1 = p at *
      generalize (plusF (sumF (xs.take i)) xs[i]).2 = r at *
      generalize (sumF (xs.take i)).1 = s1 at *
      generalize (sumF (xs.take i)).2 = s2 at *
      generalize (totF (xs.take i)).1 = t1 at *
      generalize (totF (xs.take i)).2 = t2 at *
      generalize xs[i].1 = y1 at *
      generalize xs[i].2 = y2 at *
      calc p * (t2 * y2) * s2 = (p * (s2 * y2)) * t2 := by grind
        _ = ((s1 * y2 + y1 * s2) * r) * t2 := by rw [c]
        _ = ((s1 * t2) * y2 + y1 * s2 * t2) * r := by grind
        _ = ((t1 * s2) * y2 + y1 * s2 * t2) * r := by rw [h2]
        _ = (t1 * y2 + y1 * t2) * r * s2 := by grind
    exact Int.eq_of_mul_eq_mul_right (by omega) w
structure SumT (xs : List (Int × Int)) : Prop where
  den : 0 < (sumF xs).2
  gcd : Int.gcd (sumF xs).1 (sumF xs).2 = 1
  cross : (sumF xs).1 * (totF xs).2 = (totF xs).1 * (sumF xs).2
  b1 : Bd 40000 (sumF xs).1
  b2 : Bd 40000 (sumF xs).2
  b3 : Bd 40000 (totF xs).1
  b4 : Bd 40000 (totF xs).2
theorem sumT {xs : List (Int × Int)} (hx : ∀ x ∈ xs, Fr x) (hl : xs.length ≤ 101) : SumT xs := by
  have a := sum_tot hx xs.length (Nat.le_refl _)
  have b := sumF_ok (fun x h => ⟨(hx x h).1, (hx x h).2.2.1, (hx x h).2.2.2⟩) xs.length (Nat.le_refl _)
  have c := totF_ok hx xs.length (Nat.le_refl _)
  rw [List.take_length] at a b c
  exact ⟨b.1, a.1, a.2, b.2.1.mono (by omega), b.2.2.mono (by omega), c.2.1.mono (by omega), c.2.2.mono (by omega)⟩
theorem sum_one {y : Int × Int} (hy : Fr y) : sumF [y] = y := by
  show plusF (0, 1) y = y
  have d1 : (0 : Int) < ((0 : Int), (1 : Int)).2 := by decide
  have c := plusF_cross d1 hy.1
  have q := low_uniq (plusF_den d1 hy.1) hy.1 (plusF_gcd d1 hy.1) hy.2.1 (by simpa using c)
  exact Prod.ext q.1 q.2
end Z
set_option Elab.async false
set_option linter.all false
set_option maxRecDepth 100000
set_option maxHeartbeats 4000000
/-! Z8: the ends: what the top's facts give, the law's own call. -/
namespace Z
open PySem L2
theorem funAt {U : Env1} {h : Heap} {x : Str} {st : Stmt} {f : Addr} {oc kV dc pm cd ct : Value} {od an : Option Addr} {sl : Array (Option Value)} (X : U.K.In h) (G : h.Ns mainGlobals U.mg) (a : PySem.W.nsIn U.K mainGlobals x = some (some (.ref f)))
    (l : U.K.lookup f = some ⟨oc, od, .func (PySem.W.fnOf x x (defArgs st) (defBody st) (defScope st) .none kV dc pm an cd ct), sl⟩) (c : PySem.W.codeIn U.K cd x = true) (k : PySem.W.keepIn U.K (.ref f) = true) : FunAt U x st [] :=
  ⟨f, _, ⟨⟨oc, od, .none, kV, dc, pm, an, cd, ct, sl, rfl, l, c, .inl ⟨rfl, rfl⟩, .inl rfl⟩, k⟩, PySem.W.mg_of X G a⟩
/-- with one default, an int -/
theorem funAt1 {U : Env1} {h : Heap} {x : Str} {st : Stmt} {f T : Addr} {i : Int} {oc kV dc pm cd ct ocT : Value} {od an odT : Option Addr} {sl slT : Array (Option Value)} {nT : Nat} {tk : Tok} (X : U.K.In h) (G : h.Ns mainGlobals U.mg) (a : PySem.W.nsIn U.K mainGlobals x = some (some (.ref f)))
    (l : U.K.lookup f = some ⟨oc, od, .func (PySem.W.fnOf x x (defArgs st) (defBody st) (defScope st) (.ref T) kV dc pm an cd ct), sl⟩) (c : PySem.W.codeIn U.K cd x = true) (k : PySem.W.keepIn U.K (.ref f) = true)
    (lT : U.K.lookup T = some ⟨ocT, odT, (.seq #[.int i tk] nT), slT⟩) : FunAt U x st [.int i] :=
  ⟨f, _, ⟨⟨oc, od, .ref T, kV, dc, pm, an, cd, ct, sl, rfl, l, c, .inr ⟨by simp, T, _, [.int i tk], nT, rfl, lT, rfl, .cons ⟨_, rfl⟩ .nil⟩, .inl rfl⟩, k⟩, PySem.W.mg_of X G a⟩
theorem blt_nil {U : Env1} : Blt U [] := ⟨fun x h => by cases h⟩
theorem blt_cons {U : Env1} {x : Str} {bs : List Str} (h : U.mg x = none) (t : Blt U bs) : Blt U (x :: bs) := ⟨fun y hy => by
  cases hy with
  | head => exact h
  | tail q => exact t.h y q⟩
theorem fn_okC {U : Env1} {x : Str} {st : Stmt} {S : Scp} {ps : List Str} {c : Ct} {n : Nat} {dvs : List V} {f : Addr} {fd : FuncData} (Fu : FunD U.K x x (defArgs st) (defBody st) (defScope st) dvs [] f fd) (so : S.Ok) (sc : S.sc = defScope st) (fs : FnScope S.N ps (defScope st)) (hn : ps.length = n) (hN : n ≤ S.N.length)
    (len : ∀ ds P E, c ds P E → ds.length = n)
    (body : ∀ (G H : Hp) ds P E, c ds P E → JSs S (U.cg G H fun _ => E) (defBody st) (startD S.N ds) { nx := fun _ => P .non, rt := P }) : FnOk U.P U.w U.K U.mg U.base (L2.CX U.P U.w) (S.lv + 1) f fd ps (spC U.K c) := by
  refine Fu.ok fs (fun vs H Q E h => ?_) (fun cdv A outer s H vs Q E hr h => ?_)
  · obtain ⟨G, ds, _, r, h⟩ := h
    rw [r.length, len _ _ _ h, hn]
  · obtain ⟨G, ds, e, r, h⟩ := h
    have hl := len _ _ _ h
    refine ⟨_, wSs_pss, ?_⟩
    refine (body G H ds _ _ h).run _ ⟨so, rfl, rfl, rfl, rfl, rfl, rfl, sc.symm, rfl, hr, fun _ _ => .inl rfl, fun _ => ⟨rfl, rfl, rfl, passes_of rfl⟩, ?_⟩ _ G H _ (.refl e) (EnvOk.start r _ (by omega)) ⟨?_, ?_, ?_, ?_⟩
    · refine Takes.imp (takes_of rfl rfl rfl rfl) ?_
      rintro cls d σ' H' ⟨G', δ', ns, es, s', ev', x', q⟩
      exact q d G' H' s' x'
    · exact fun σ' G' H' δ' s' _ _ q => q .non G' H' s' rep_non
    · exact fun _ _ _ _ _ _ _ q => q.elim
    · exact fun _ _ _ _ _ _ _ q => q.elim
    · exact fun v G' H' d s' r' q => q v G' H' s' r'
/-- the law's contract -/
inductive cLaw : List D → (D → Prop) → (Value → List Str → List D → Prop) → Prop
  | mk {P : D → Prop} {E : Value → List Str → List D → Prop} (ns : List Int) (hl : ns.length ≤ 63) (hbits : ∀ z ∈ ns, Builtin.Int.intBits z ≤ 1048576) (k : P (.bl true)) : cLaw [.scr ns] P E
theorem law_walk {l : PySem.W.OpenLaw} {k : Nat} {q : Program} {loose : List Str} {XP : (Str → Option Value) → Heap → Prop} {YP : World → Heap → Prop} {d : DefRec} {K : Params → PySem.W.Frag} {x : Str}
    (hn : l.most = some 63) (hdf : d.params.defaults = []) (hr : Room k callerA) (hY : ∀ (w : World) (h : Heap), YP w h → (K w.params).In h)
    (F : ∀ (w : World) (mg : Str → Option Value) (fa : Addr) (h : Heap), (K w.params).In h → h.Ns mainGlobals mg → mg d.name = some (.ref fa) →
      ∃ fd : FuncData, (∀ (s : Shared) (u : Value), BindsTo s fd ⟨[u], []⟩ [(x, u)]) ∧
        ∀ base : Heap, (K w.params).In base → base.Ns mainGlobals mg → FnOk l.prog w (K w.params) mg base (L2.CX l.prog w) k fa fd [x] (spC (K w.params) cLaw)) :
    PySem.W.WalkO q loose XP YP l.row.toRowW d [] (fun f vs => PySem.call f vs) :=
  L2.walk_ofB (n := 63) (k := k) (x := x) (CX := fun w => L2.CX l.prog w) (sp := fun w => spC (K w.params) cLaw) hn (by decide) hdf hr hY F
    (fun w H a ns hl hb _ hS => ⟨H, [.scr ns], Same.refl H, .cons (by unfold Rep; exact ⟨a, rfl, hS⟩) .nil, .mk ns hl hb fun v G' H' s r => by unfold Rep at r; exact r⟩)
    (fun w H s e s' h => by
      obtain ⟨_, _, _, _, _, _, _, _, _, _, _, _, z⟩ := h
      exact z)
end Z
set_option Elab.async false
set_option linter.all false
set_option maxRecDepth 100000
set_option maxHeartbeats 4000000
namespace Z
open PySem L2
local macro_rules | `(tactic| lsm_bools) => `(tactic| fail)
local macro_rules | `(tactic| ktu_offI) => `(tactic| with_reducible (first | exact Has.head | (apply Has.tail; ktu_offI)))
local macro_rules | `(tactic| ktu_offL) => `(tactic| with_reducible (first | exact HasG.head | (apply HasG.tail; ktu_offL)))
local macro_rules | `(tactic| lcg_off) => `(tactic| exact Blt.h (by assumption) _ (by ktu_offL))
local macro_rules | `(tactic| lcg_sub) => `(tactic| first | assumption | omega | decide +kernel)
local macro_rules | `(tactic| lcg_src) => `(tactic| first | exact Bd.ok (n := 3000) (m := 3000) (by unfold Bd; decide +kernel) (by unfold Bd; decide +kernel) (by decide) | exact mulok_r (by omega) | exact mulok_l (by omega) | exact Bd.ok (by mem_news) (by mem_news) (by omega))
local macro_rules | `(tactic| mem_news) => `(tactic| with_reducible (first | assumption | exact Bd.neg (by mem_news) | exact Bd.mul (by mem_news) (by mem_news) | exact Bd.add (by mem_news) (by mem_news) | exact Bd.sub (by mem_news) (by mem_news)))
local macro_rules | `(tactic| nest_cls) => `(tactic| first | exact PyProof.noPylong_small (by decide) | exact nopy_i (by mem_news) (by omega) | exact nopy_j (by mem_news) (by omega))
local macro_rules | `(tactic| k_offL) => `(tactic| first
  | (with_reducible show JE _ _ (Expr.Name _ _) _ _
     first
     | refine ze_name (by ktu_offI) (by rfl) ?_
     | refine zt_int (by ktu_offL) (by lcg_off) ?_
     | refine zt_bool (by ktu_offL) (by lcg_off) ?_
     | refine zt_str (by ktu_offL) (by lcg_off) ?_
     | refine zt_tuple (by ktu_offL) (by lcg_off) ?_
     | refine zt_list (by ktu_offL) (by lcg_off) ?_
     | refine zt_dict (by ktu_offL) (by lcg_off) ?_)
  | (with_reducible show JE _ _ (Expr.Constant _ _ _) _ _
     first | refine je_int ?_ | refine je_str ?_ | refine je_bl ?_ | refine je_non ?_)
  | (with_reducible show JE _ _ (Expr.Subscript _ _ _) _ _
     first
     | refine je_stoGet ?_
     | refine je_ix (fun _ _ => rfl) ?_)
  | (with_reducible show JE _ _ (Expr.BinOp _ _ _ _) _ _
     refine je_bin ?_)
  | (with_reducible show JE _ _ (Expr.Call _ _ _ _) _ _
     first
     | refine ze_own (by ktu_offI) (by rfl) ?_
     | refine ze_call (by assumption) (by first | decide | exact Nat.le_refl _) (by ktu_offL) ?_
     | refine zb_len (by ktu_offL) (by lcg_off) ?_
     | refine zb_int (by ktu_offL) (by lcg_off) ?_
     | refine zb_abs (by ktu_offL) (by lcg_off) ?_
     | refine zb_isi (by ktu_offL) (by lcg_off) ?_
     | refine zb_max (by ktu_offL) (by lcg_off) ?_
     | refine zb_min (by ktu_offL) (by lcg_off) ?_
     | refine zb_list (by ktu_offL) (by lcg_off) ?_)
  | (with_reducible show JE _ _ (Expr.Tuple _ _ _) _ _
     refine je_tup ?_)
  | (with_reducible show JE _ _ (Expr.UnaryOp _ _ _) _ _
     first | refine je_not ?_ | refine je_un ?_)
  | (with_reducible show JE _ _ (Expr.Compare _ _ _ _) _ _
     first | refine je_cmp (nomark _) ?_ | refine je_chain (by with_unfolding_all rfl) ?_)
  | (with_reducible show JE _ _ (Expr.BoolOp _ _ _) _ _
     first | refine je_one ?_ | refine je_and ?_ | refine je_or ?_)
  | (with_reducible show JE _ _ (Expr.IfExp _ _ _ _) _ _
     refine je_if ?_)
  | (with_reducible show JE _ _ (Expr.List _ _) _ _
     refine jf_je (jf_lst ?_)))
local macro_rules | `(tactic| k_subL) => `(tactic| first
  | ((with_reducible show JT _ _ (Expr.Compare _ _ _ _) _ _); first | refine jt_cmp (nomark _) ?_ | refine jt_chain (by with_unfolding_all rfl) ?_)
  | ((with_reducible show JT _ _ (Expr.BoolOp _ _ _) _ _); refine jw_t ?_)
  | ((with_reducible show JT _ _ (Expr.UnaryOp _ _ _) _ _); refine jt_not ?_)
  | refine jt_val ?_ (fun _ _ => rfl))
local macro_rules | `(tactic| k_clsL) => `(tactic| first
  | refine jw_and1 ?_
  | refine jw_or1 ?_
  | refine jw_and ?_
  | refine jw_or ?_)
local macro_rules | `(tactic| kct_strs) => `(tactic| first
  | (with_reducible refine od_add ?_)
  | (with_reducible refine od_sub ?_)
  | ((with_reducible show OpD _ _ (binaryOp Operator.Mult) _ _ _); refine od_mul (by lcg_src) ?_)
  | ((with_reducible show OpD _ _ (binaryOp Operator.Mod) _ _ _); refine od_mod (by lcg_sub) ?_)
  | ((with_reducible show OpD _ _ (binaryOp Operator.FloorDiv) _ _ _); refine od_fdiv (by lcg_sub) (by nest_cls) ?_)
  | ((with_reducible show OpD _ _ (binaryOp Operator.Pow) _ _ _); first | (with_reducible refine od_p10_3 ?_) | (with_reducible refine od_p10_6 ?_) | (with_reducible refine od_p10_9 ?_) | (with_reducible refine od_p10_12 ?_) | (with_reducible refine od_p10_18 ?_) | (with_reducible refine od_p10_19 ?_) | (with_reducible refine od_p10_20 ?_) | (with_reducible refine od_p10_30 ?_) | (with_reducible refine od_p10_39 ?_) | (with_reducible refine od_p10_40 ?_) | (with_reducible refine od_p10_64 ?_))
  | (with_reducible refine od_eq ?_)
  | (with_reducible refine od_ne ?_)
  | (with_reducible refine od_lt ?_)
  | (with_reducible refine od_le ?_)
  | (with_reducible refine od_gt ?_)
  | (with_reducible refine od_ge ?_)
  | (with_reducible refine od_eqS ?_)
  | (with_reducible refine od_neS ?_)
  | (with_reducible refine od_eqB ?_)
  | (with_reducible refine od_isN ?_)
  | (with_reducible refine od_notN ?_)
  | ((with_reducible show OpD _ _ (binaryOp Operator.Add) (D.lst _) (D.lst _) _); refine of_od (of_cat (by lcg_sub) ?_))
  | (with_reducible refine od_iadd ?_)
  | (with_reducible refine od_isub ?_))
local macro_rules | `(tactic| kd_addB) => `(tactic| first
  | (with_reducible refine cd_lenL ?_)
  | (with_reducible refine cd_lenT ?_)
  | (with_reducible refine cd_int ?_)
  | (with_reducible refine cd_intB ?_)
  | (with_reducible refine cd_abs ?_)
  | (with_reducible refine cd_max ?_)
  | (with_reducible refine cd_min ?_)
  | (with_reducible refine ci_bool (by with_unfolding_all rfl) ?_)
  | (with_reducible refine ci_int (by with_unfolding_all rfl) ?_)
  | (with_reducible refine ci_str (by with_unfolding_all rfl) ?_)
  | (with_reducible refine ci_tup (by with_unfolding_all rfl) ?_)
  | (with_reducible refine ci_lst (by with_unfolding_all rfl) ?_)
  | (with_reducible refine ci_dict (by with_unfolding_all rfl) ?_))
local macro_rules | `(tactic| kd_addW) => `(tactic| first
  | refine zs_ret ?_
  | refine zs_if ?_
  | refine zs_set (by ktu_offI) ?_
  | refine zs_append (by ktu_offI) (by rfl) ?_
  | refine zs_expr ?_
  | refine zs_aug (by ktu_offI) (by rfl) ?_
  | refine zs_par (by ktu_offI) (by ktu_offI) (by decide) (by decide +kernel) (by decide +kernel) ?_ (fun env h => by cases env; cases h; rfl)
  | refine zs_stoPut ?_
  | refine zs_asg ?_)
local macro_rules | `(tactic| kcj_in) => `(tactic| first
  | refine zg_name (by ktu_offI) ?_
  | refine jg_tup (by rfl) ?_)
local macro_rules | `(tactic| krn_off) => `(tactic| first
  | refine L2.iteT ?_
  | refine L2.iteF ?_
  | refine ite_dT (by lcg_sub) ?_
  | refine ite_dF (by lcg_sub) ?_
  | refine ite_ndT (by lcg_sub) ?_
  | refine ite_ndF (by lcg_sub) ?_)
local macro_rules | `(tactic| kas_types) => `(tactic| first
  | ((with_reducible show JE _ _ _ _ _); k_offL)
  | ((with_reducible show OpD _ _ _ _ _ _); kct_strs)
  | ((with_reducible show JSs _ _ _ _ _); first | refine zs_one ?_ | refine zs_cons ?_ | refine zs_nil ?_)
  | ((with_reducible show JS _ _ _ _ _); kd_addW)
  | ((with_reducible show JT _ _ _ _ _); k_subL)
  | ((with_reducible show JW _ _ _ _ _); k_clsL)
  | ((with_reducible show IxD _ _ _ _ _); first | refine ixd_tup (by rfl) ?_ | refine ixd_lst (by rfl) ?_)
  | ((with_reducible show UnD _ _ _ _ _); refine ud_neg ?_)
  | ((with_reducible show JA _ _ _ _ _); first | refine ja_nil ?_ | refine ja_cons (fun _ => rfl) ?_)
  | ((with_reducible show isBl _ _); refine isBl_mk ?_)
  | ((with_reducible show CallD _ _ _ _ _); kd_addB)
  | ((with_reducible show CallF _ _ _ _ _); first | refine cf_list ?_ | refine cf_listT ?_)
  | ((with_reducible show JG _ _ _ _ _ _); kcj_in)
  | ((with_reducible show JGs _ _ _ _ _ _); first | refine jgs_nil ?_ | refine jgs_cons ?_)
  | ((with_reducible show (if _ then _ else _ : Prop)); krn_off)
  | ((with_reducible show _ ≤ sizeLine ∧ _); refine And.intro (by first | exact (by decide : _ ≤ sizeLine) | (simp; done) | (simp; decide)) ?_)
  | ((with_reducible show flatD _ ∧ _); refine And.intro (by simp [flatD, flatL]) ?_)
  | ((with_reducible show ∃ c, D.sto _ = D.sto c ∧ _); refine Exists.intro _ (And.intro rfl ?_))
  | ((with_reducible show StoGet _ _ _); first | refine sg_restB (fun r h1 h2 => ?_) | refine sg_left (fun r h1 => ?_) | refine sg_at (fun r h1 h2 => ?_) | refine sg_turn (fun r => ?_) | refine sg_seed (fun r => ?_) | refine sg_cells ?_)
  | lsm_bools)
local macro_rules | `(tactic| kat_tups) => `(tactic| repeat kas_types)
theorem cSame.of {j : Nat} {P : D → Prop} {E : EK} {d e : D} (he : d = e) (h : Dp j e) (k : P (.bl true)) : cSame j [d, e] P E := by
  subst he
  exact .mk _ h k
theorem dp_int {j : Nat} {i : Int} : Dp j (.int i) := by cases j <;> first | exact trivial | exact .inl trivial
theorem dp_bl {j : Nat} {i : Bool} : Dp j (.bl i) := by cases j <;> first | exact trivial | exact .inl trivial
theorem dp_fr {j : Nat} {x : Int × Int} : Dp (j + 1) (fr x) := .inr ⟨_, .inl rfl, by simp, fun e he => by
  simp only [List.mem_cons, List.not_mem_nil, or_false] at he
  rcases he with rfl | rfl <;> exact dp_int⟩
theorem dp_frs {j : Nat} {xs : List (Int × Int)} (h : xs.length ≤ 100) : Dp (j + 2) (.lst (xs.map fr)) := .inr ⟨_, .inr rfl, by simp; omega, fun e he => by
  obtain ⟨x, _, rfl⟩ := List.mem_map.mp he
  exact dp_fr⟩
theorem cRatio.lo {P : D → Prop} {E : EK} {m : Nat} {p : Int × Int} {n d : Int} (l : Lo m p n d) (hm : m ≤ 40000) (h1 : Bd 40000 n) (h2 : Bd 40000 d) (k : P (.bl true)) : cRatio [.tup [.int p.1, .int p.2], .int n, .int d] P E := .mk p.1 p.2 n d l.den l.gcd l.cross (l.b1.mono hm) (l.b2.mono hm) h1 h2 k
/-! _law_arithmetic -/
inductive cLaw2 : List D → (D → Prop) → EK → Prop
  | mk {P : D → Prop} {E : EK} (a b c d : Int) (h1 : Fr (a, b)) (h2 : Fr (c, d)) (k : P (.bl true)) : cLaw2 [fr (a, b), fr (c, d)] P E
abbrev S_arith : Scp := { N := ["x", "y", "both"], sc := defScope (top 34), vs := [("x", 0), ("y", 1), ("both", 2)], ss := [("x", 0), ("y", 1), ("both", 2)], gl := ["_law_ratio", "plus", "minus", "times", "over", "_law_same"], lv := 4 }
local macro_rules | `(tactic| lsm_bools) => `(tactic| first
  | refine cBin.mk 133 133 _ _ _ _ (by assumption) (by assumption) trivial (by assumption) (by assumption) (by assumption) (by assumption) (by decide) ?_
  | refine cBin.mk 133 133 _ _ _ _ (by assumption) (by assumption) (by assumption) (by assumption) (by assumption) (by assumption) (by assumption) (by decide) ?_
  | refine cBin.mk 270 133 _ _ _ _ (by assumption) (by assumption) trivial (by assumption) (by assumption) (by assumption) (by assumption) (by decide) ?_
  | refine cBin.mk 270 133 _ _ _ _ (by assumption) (by assumption) (by assumption) (by assumption) (by assumption) (by assumption) (by assumption) (by decide) ?_
  | refine cRatio.lo (by assumption) (by decide) (Bd.mono (by mem_news) (by omega)) (Bd.mono (by mem_news) (by omega)) ?_)
theorem b_arith {U : Env1} (F1 : U.Def "plus" 4 [] (cBin plusF okT)) (F2 : U.Def "minus" 4 [] (cBin minusF okT)) (F3 : U.Def "times" 4 [] (cBin timesF okT)) (F4 : U.Def "over" 4 [] (cBin overF okN)) (F5 : U.Def "_law_ratio" 4 [] cRatio) (F6 : U.Def "_law_same" 3 [] (cSame 1)) (G H : Hp) (ds) (P) (E) (h : cLaw2 ds P E) : JSs S_arith (U.cg G H fun _ => E) (defBody (top 34)) (startD S_arith.N ds) { nx := fun _ => P .non, rt := P } := by
  obtain ⟨a, b, c, d, h1, h2, k⟩ := h
  obtain ⟨x0, x1, x2, x3⟩ := id h1
  obtain ⟨y0, y1, y2, y3⟩ := id h2
  have l1 := lo_plus h1 h2
  have l2 := lo_minus h1 h2
  have l3 := lo_times h1 h2
  dsimp only at x0 x1 x2 x3 y0 y1 y2 y3 l1 l2 l3
  kat_tups
  refine ite_d (fun h0 => ?_) (fun h0 => ?_)
  · kat_tups
    exact k
  have hn : okN (a, b) (c, d) := h0
  have hn2 : okN (timesF (a, b) (c, d)) (c, d) := h0
  have l4 := lo_over h1 h2 h0
  have e1 := back_over h1 h2 h0
  have e2 := back_times h1 h2 h0
  obtain ⟨u0, _, _, u1, u2⟩ := id l3
  obtain ⟨v0, _, _, v1, v2⟩ := id l4
  dsimp only at l4
  kat_tups
  refine cSame.of (congrArg fr e1) dp_fr ?_
  kat_tups
  refine cSame.of (congrArg fr e2) dp_fr ?_
  kat_tups
  exact k
/-! _law_order -/
theorem below_eq {a b c d : Int} : belowF (a, b) (c, d) = .bl (decide (a * d - c * b < 0)) := by
  unfold belowF
  refine congrArg D.bl (decide_eq_decide.mpr ?_)
  show a * d < c * b ↔ _
  omega
theorem compare_eq {a b c d : Int} : compareF (a, b) (c, d) = .int ((if decide (0 < a * d - c * b) = true then 1 else 0) - if decide (a * d - c * b < 0) = true then 1 else 0) := by
  unfold compareF
  refine congrArg D.int ?_
  show (if a * d < c * b then (-1 : Int) else if c * b < a * d then 1 else 0) = _
  simp only [decide_eq_true_eq]
  split <;> split <;> split <;> omega
theorem below_self {x : Int × Int} : belowF x x = .bl false := by
  unfold belowF
  refine congrArg D.bl (decide_eq_false ?_)
  omega
theorem compare_self {x : Int × Int} : compareF x x = .int 0 := by
  unfold compareF
  refine congrArg D.int ?_
  rw [if_neg (by omega), if_neg (by omega)]
abbrev S_order : Scp := { N := ["x", "y", "cross", "sign"], sc := defScope (top 35), vs := [("x", 0), ("y", 1), ("cross", 2), ("sign", 3)], ss := [("x", 0), ("y", 1), ("cross", 2), ("sign", 3)], gl := ["int", "_law_same", "below", "compare"], lv := 4 }
local macro_rules | `(tactic| lsm_bools) => `(tactic| refine cRel.mk 133 _ _ _ _ (by assumption) (by assumption) (by assumption) (by assumption) (by decide) ?_)
theorem b_order {U : Env1} (hB : Blt U ["int"]) (F1 : U.Def "below" 2 [] (cRel belowF)) (F2 : U.Def "compare" 2 [] (cRel compareF)) (F6 : U.Def "_law_same" 3 [] (cSame 1)) (G H : Hp) (ds) (P) (E) (h : cLaw2 ds P E) : JSs S_order (U.cg G H fun _ => E) (defBody (top 35)) (startD S_order.N ds) { nx := fun _ => P .non, rt := P } := by
  obtain ⟨a, b, c, d, h1, h2, k⟩ := h
  obtain ⟨x0, x1, x2, x3⟩ := id h1
  obtain ⟨y0, y1, y2, y3⟩ := id h2
  dsimp only at x0 x1 x2 x3 y0 y1 y2 y3
  kat_tups
  refine cSame.of below_eq dp_bl ?_
  kat_tups
  refine cSame.of compare_eq dp_int ?_
  kat_tups
  refine cSame.of below_self dp_bl ?_
  kat_tups
  refine cSame.of compare_self dp_int ?_
  kat_tups
  exact k
/-! law -/
abbrev S_law : Scp := { N := ["script", "store", "x", "y", "k", "items", "total", "turn", "given", "answer", "more"], sc := defScope (top 36), vs := [("script", 0), ("store", 1), ("x", 2), ("y", 3), ("k", 4), ("items", 5), ("total", 6), ("turn", 7), ("given", 8), ("answer", 9), ("more", 10)], ss := [("script", 0), ("store", 1), ("x", 2), ("y", 3), ("k", 4), ("items", 5), ("total", 6), ("turn", 7), ("given", 8), ("answer", 9), ("more", 10)], gl := ["_law_draws", "_law_couple", "_law_between", "_law_items", "_law_total", "range", "_law_arithmetic", "_law_order", "_law_same", "raised", "_law_raise", "list", "add_all", "_law_ratio", "len"], lv := 7 }
theorem cPow.of {P : D → Prop} {E : EK} {a b i : Int} (j : Nat) (hi : i = j) (hj : j ≤ 1000) (h : Fr (a, b)) (k : P (fr (a ^ j, b ^ j))) : cPow [fr (a, b), .int i] P E := by
  subst hi
  exact .mk a b j hj (h.2.2.1.mono (by decide)) (h.2.2.2.mono (by decide)) k
theorem cSum.of {P : D → Prop} {E : EK} {l : List D} (xs : List (Int × Int)) (e : l = xs.map fr) (hl : xs.length ≤ 100) (hx : ∀ x ∈ xs, Fr x) (k : P (fr (sumF xs))) : cSum [.lst l] P E := by
  subst e
  exact .mk xs hl (fun x h => ⟨(hx x h).1, (hx x h).2.2.1, (hx x h).2.2.2⟩) k
theorem cTotal.of {P : D → Prop} {E : EK} {l : List D} (xs : List (Int × Int)) (e : l = xs.map fr) (hl : xs.length ≤ 101) (hx : ∀ x ∈ xs, Fr x) (k : P (fr (totF xs))) : cTotal [.lst l] P E := by
  subst e
  exact .mk xs hl hx k
theorem cRatio.sum {P : D → Prop} {E : EK} {xs : List (Int × Int)} (t : SumT xs) (k : P (.bl true)) : cRatio [fr (sumF xs), .int (totF xs).1, .int (totF xs).2] P E := .mk _ _ _ _ t.den t.gcd t.cross t.b1 t.b2 t.b3 t.b4 k
local macro_rules | `(tactic| lsm_bools) => `(tactic| first
  | refine cDraws.mk _ (by assumption) ?_
  | refine cCouple.mk _ (by assumption) (fun a b c d h1 h2 => ?_)
  | refine cBetween.mk _ (by assumption) _ _ (fun v h1 h2 => ?_)
  | refine cItems.mk _ (by assumption) (fun xs h1 h2 => ?_)
  | refine cTotal.mk _ (by omega) (by assumption) ?_
  | refine cLaw2.mk _ _ _ _ (by assumption) (by assumption) ?_)
theorem b_law {U : Env1} (hB : Blt U ["range", "list", "len"]) (F1 : U.Def "_law_draws" 2 [] cDraws) (F2 : U.Def "_law_couple" 7 [] cCouple) (F3 : U.Def "_law_between" 4 [] cBetween) (F4 : U.Def "_law_items" 7 [] cItems) (F5 : U.Def "_law_total" 2 [] cTotal) (F6 : U.Def "_law_arithmetic" 5 [] cLaw2) (F7 : U.Def "_law_order" 5 [] cLaw2) (F8 : U.Def "_law_same" 4 [] (cSame 2)) (F9 : U.Def "raised" 2 [] cPow) (F10 : U.Def "_law_raise" 2 [] cPow) (F11 : U.Def "add_all" 5 [] cSum) (F12 : U.Def "_law_ratio" 4 [] cRatio) (G H : Hp) (ds) (P) (E) (h : cLaw ds P E) : JSs S_law (U.cg G H fun _ => E) (defBody (top 36)) (startD S_law.N ds) { nx := fun _ => P .non, rt := P } := by
  obtain ⟨ns, hl, _, k⟩ := h
  kat_tups
  rename_i a b c d hx hy v v1 v2 xs xl xf
  refine zs_for rfl (zi_rng1 (by ktu_offL) (by lcg_off) (fun _ => rfl) ?_)
  kat_tups
  refine ⟨2, rfl, by decide, by decide, fun i δ' => ∃ s : Sl, δ' = [.fz (.scr ns), .fz (.sto ns), .fz (fr (a, b)), .fz (fr (c, d)), .fz (.int v), .fz (.lst (xs.map fr)), .fz (fr (totF xs)), s, .no, .no, .no], ⟨_, rfl⟩, ?_, ?_⟩
  · intro i hi
    refine turns_of ?_
    rintro δ' ⟨s, rfl⟩
    kat_tups
    exact ⟨_, rfl⟩
  rintro δ' ⟨s, rfl⟩
  obtain ⟨j, hj⟩ := Int.eq_ofNat_of_zero_le v1
  refine zs_cut fun Q hQ => ?_
  kat_tups
  refine cPow.of j hj (by omega) hx ?_
  kat_tups
  refine cPow.of j hj (by omega) hx ?_
  kat_tups
  refine cSame.of rfl dp_fr ?_
  kat_tups
  refine cPow.of 0 rfl (by omega) hy ?_
  kat_tups
  refine cSame.of (congrArg fr (show (c ^ 0, d ^ 0) = ((1 : Int), (1 : Int)) by rw [Int.pow_zero, Int.pow_zero])) (dp_fr (x := (1, 1))) ?_
  kat_tups
  refine hQ _ ?_
  refine zs_cut fun Q hQ => ?_
  kat_tups
  refine cPow.of 1 rfl (by omega) hy ?_
  kat_tups
  refine cSame.of (congrArg fr (show (c ^ 1, d ^ 1) = (c, d) by rw [Int.pow_one, Int.pow_one])) (dp_fr (x := (c, d))) ?_
  kat_tups
  refine cPow.of 2 rfl (by omega) hy ?_
  kat_tups
  refine cPow.of 2 rfl (by omega) hy ?_
  kat_tups
  refine cSame.of rfl dp_fr ?_
  kat_tups
  refine hQ _ ?_
  refine zs_cons (zs_setFL (by ktu_offI) (zf_list (by ktu_offL) (by lcg_off) ?_))
  kat_tups
  refine cSum.of xs rfl xl xf ?_
  kat_tups
  refine cRatio.sum (sumT xf (by omega)) ?_
  kat_tups
  refine cSame.of rfl (dp_frs xl) ?_
  kat_tups
  have hs : 1000 < sizeLine := by decide
  refine ⟨by rw [List.length_map]; omega, ?_⟩
  have f3 : Fr (1, 3) := frS (by decide) (by decide) (by decide) (by decide)
  have xf' : ∀ x ∈ xs ++ [(1, 3)], Fr x := by
    intro x hx'
    rcases List.mem_append.mp hx' with q | q
    · exact xf x q
    · rw [List.mem_singleton] at q
      subst q
      exact f3
  have em : xs.map fr ++ [fr (1, 3)] = (xs ++ [(1, 3)]).map fr := by simp
  kat_tups
  refine of_od (of_cat (by simp; omega) ?_)
  kat_tups
  refine cTotal.of (xs ++ [(1, 3)]) em (by simp; omega) xf' ?_
  kat_tups
  refine ite_d (fun h9 => ?_) (fun h9 => ?_)
  · rw [List.length_map] at h9
    kat_tups
    refine cSum.of (xs ++ [(1, 3)]) em (by simp; omega) xf' ?_
    kat_tups
    refine cRatio.sum (sumT xf' (by simp; omega)) ?_
    kat_tups
    refine cSum.of [] rfl (by decide) (by simp) ?_
    kat_tups
    refine cSame.of rfl (dp_fr (x := (0, 1))) ?_
    kat_tups
    refine cSum.of [(c, d)] rfl (by simp) (by simpa using hy) ?_
    kat_tups
    refine cSame.of (congrArg fr (sum_one hy)) (dp_fr (x := (c, d))) ?_
    kat_tups
    exact k
  · kat_tups
    refine cSum.of [] rfl (by decide) (by simp) ?_
    kat_tups
    refine cSame.of rfl (dp_fr (x := (0, 1))) ?_
    kat_tups
    refine cSum.of [(c, d)] rfl (by simp) (by simpa using hy) ?_
    kat_tups
    refine cSame.of (congrArg fr (sum_one hy)) (dp_fr (x := (c, d))) ?_
    kat_tups
    exact k
end Z
set_option Elab.async false
set_option linter.all false
set_option maxRecDepth 100000
set_option maxHeartbeats 4000000
namespace Z
open PySem L2
/-! ### the contracts: how long, how they grow -/
theorem AllP.imp {P P' : D → Prop} (h : ∀ d, P d → P' d) : ∀ {ds : List D}, AllP ds P → AllP ds P'
  | [], _ => trivial
  | _ :: _, q => ⟨h _ q.1, AllP.imp h q.2⟩
theorem mo_cGcd : ∀ (ds : List D) (P P' : D → Prop) (E E' : EK), (∀ d, P d → P' d) → (∀ v ns es, E v ns es → E' v ns es) → cGcd ds P E → cGcd ds P' E' := by
  intro ds P P' E E' hp he h
  obtain ⟨a, b, ha, hb, k⟩ := h
  exact .mk a b ha hb (hp _ k)
theorem mo_cPart : ∀ (ds : List D) (P P' : D → Prop) (E E' : EK), (∀ d, P d → P' d) → (∀ v ns es, E v ns es → E' v ns es) → cPart ds P E → cPart ds P' E' := by
  intro ds P P' E E' hp he h
  obtain ⟨n, d, h0, hn, hd, k⟩ := h
  exact .mk n d h0 hn hd (hp _ k)
theorem mo_cPow : ∀ (ds : List D) (P P' : D → Prop) (E E' : EK), (∀ d, P d → P' d) → (∀ v ns es, E v ns es → E' v ns es) → cPow ds P E → cPow ds P' E' := by
  intro ds P P' E E' hp he h
  obtain ⟨a, b, j, hj, ha, hb, k⟩ := h
  exact .mk a b j hj ha hb (hp _ k)
theorem mo_cSum : ∀ (ds : List D) (P P' : D → Prop) (E E' : EK), (∀ d, P d → P' d) → (∀ v ns es, E v ns es → E' v ns es) → cSum ds P E → cSum ds P' E' := by
  intro ds P P' E E' hp he h
  obtain ⟨xs, hl, hx, k⟩ := h
  exact .mk xs hl hx (hp _ k)
theorem mo_cMixed : ∀ (ds : List D) (P P' : D → Prop) (E E' : EK), (∀ d, P d → P' d) → (∀ v ns es, E v ns es → E' v ns es) → cMixed ds P E → cMixed ds P' E' := by
  intro ds P P' E E' hp he h
  obtain ⟨number, turn, many, hm, k⟩ := h
  exact .mk number turn many hm (fun u0 u1 u2 => hp _ (k u0 u1 u2))
theorem mo_cDraws : ∀ (ds : List D) (P P' : D → Prop) (E E' : EK), (∀ d, P d → P' d) → (∀ v ns es, E v ns es → E' v ns es) → cDraws ds P E → cDraws ds P' E' := by
  intro ds P P' E E' hp he h
  obtain ⟨ns, hl, k⟩ := h
  exact .mk ns hl (hp _ k)
theorem mo_cOpened : ∀ (ds : List D) (P P' : D → Prop) (E E' : EK), (∀ d, P d → P' d) → (∀ v ns es, E v ns es → E' v ns es) → cOpened ds P E → cOpened ds P' E' := by
  intro ds P P' E E' hp he h
  obtain ⟨cells, hl, k⟩ := h
  exact .mk cells hl (hp _ k)
theorem mo_cTake : ∀ (ds : List D) (P P' : D → Prop) (E E' : EK), (∀ d, P d → P' d) → (∀ v ns es, E v ns es → E' v ns es) → cTake ds P E → cTake ds P' E' := by
  intro ds P P' E E' hp he h
  obtain ⟨cells, hl, many, k⟩ := h
  exact .mk cells hl many (fun u0 u1 u2 => hp _ (k u0 u1 u2))
theorem mo_cBetween : ∀ (ds : List D) (P P' : D → Prop) (E E' : EK), (∀ d, P d → P' d) → (∀ v ns es, E v ns es → E' v ns es) → cBetween ds P E → cBetween ds P' E' := by
  intro ds P P' E E' hp he h
  obtain ⟨cells, hl, low, high, k⟩ := h
  exact .mk cells hl low high (fun u0 u1 u2 => hp _ (k u0 u1 u2))
theorem mo_cPick : ∀ (ds : List D) (P P' : D → Prop) (E E' : EK), (∀ d, P d → P' d) → (∀ v ns es, E v ns es → E' v ns es) → cPick ds P E → cPick ds P' E' := by
  intro ds P P' E E' hp he h
  obtain ⟨cells, hl, ds, h0, h1, k⟩ := h
  exact .mk cells hl ds h0 h1 (k.imp hp)
theorem mo_cWhole : ∀ (ds : List D) (P P' : D → Prop) (E E' : EK), (∀ d, P d → P' d) → (∀ v ns es, E v ns es → E' v ns es) → cWhole ds P E → cWhole ds P' E' := by
  intro ds P P' E E' hp he h
  obtain ⟨cells, hl, k⟩ := h
  exact .mk cells hl (fun u0 u1 => hp _ (k u0 u1))
theorem mo_cLgcd : ∀ (ds : List D) (P P' : D → Prop) (E E' : EK), (∀ d, P d → P' d) → (∀ v ns es, E v ns es → E' v ns es) → cLgcd ds P E → cLgcd ds P' E' := by
  intro ds P P' E E' hp he h
  obtain ⟨a, b, k⟩ := h
  exact .mk a b (hp _ k)
theorem mo_cLowest : ∀ (ds : List D) (P P' : D → Prop) (E E' : EK), (∀ d, P d → P' d) → (∀ v ns es, E v ns es → E' v ns es) → cLowest ds P E → cLowest ds P' E' := by
  intro ds P P' E E' hp he h
  obtain ⟨n, d, hd, h1, h2, k⟩ := h
  exact .mk n d hd h1 h2 (fun u0 u1 u2 u3 u4 u5 => hp _ (k u0 u1 u2 u3 u4 u5))
theorem mo_cFrac : ∀ (ds : List D) (P P' : D → Prop) (E E' : EK), (∀ d, P d → P' d) → (∀ v ns es, E v ns es → E' v ns es) → cFrac ds P E → cFrac ds P' E' := by
  intro ds P P' E E' hp he h
  obtain ⟨cells, hl, k⟩ := h
  exact .mk cells hl (fun u0 u1 u2 => hp _ (k u0 u1 u2))
theorem mo_cCouple : ∀ (ds : List D) (P P' : D → Prop) (E E' : EK), (∀ d, P d → P' d) → (∀ v ns es, E v ns es → E' v ns es) → cCouple ds P E → cCouple ds P' E' := by
  intro ds P P' E E' hp he h
  obtain ⟨cells, hl, k⟩ := h
  exact .mk cells hl (fun u0 u1 u2 u3 u4 u5 => hp _ (k u0 u1 u2 u3 u4 u5))
theorem mo_cItems : ∀ (ds : List D) (P P' : D → Prop) (E E' : EK), (∀ d, P d → P' d) → (∀ v ns es, E v ns es → E' v ns es) → cItems ds P E → cItems ds P' E' := by
  intro ds P P' E E' hp he h
  obtain ⟨cells, hl, k⟩ := h
  exact .mk cells hl (fun u0 u1 u2 => hp _ (k u0 u1 u2))
theorem mo_cIsInt : ∀ (ds : List D) (P P' : D → Prop) (E E' : EK), (∀ d, P d → P' d) → (∀ v ns es, E v ns es → E' v ns es) → cIsInt ds P E → cIsInt ds P' E' := by
  intro ds P P' E E' hp he h
  obtain ⟨i, k⟩ := h
  exact .mk i (hp _ k)
theorem mo_cIsFr : ∀ (ds : List D) (P P' : D → Prop) (E E' : EK), (∀ d, P d → P' d) → (∀ v ns es, E v ns es → E' v ns es) → cIsFr ds P E → cIsFr ds P' E' := by
  intro ds P P' E E' hp he h
  obtain ⟨a, b, hb, hg, k⟩ := h
  exact .mk a b hb hg (hp _ k)
theorem mo_cRatio : ∀ (ds : List D) (P P' : D → Prop) (E E' : EK), (∀ d, P d → P' d) → (∀ v ns es, E v ns es → E' v ns es) → cRatio ds P E → cRatio ds P' E' := by
  intro ds P P' E E' hp he h
  obtain ⟨a, b, n, d, hb, hg, he, k1, k2, k3, k4, k⟩ := h
  exact .mk a b n d hb hg he k1 k2 k3 k4 (hp _ k)
theorem mo_cTotal : ∀ (ds : List D) (P P' : D → Prop) (E E' : EK), (∀ d, P d → P' d) → (∀ v ns es, E v ns es → E' v ns es) → cTotal ds P E → cTotal ds P' E' := by
  intro ds P P' E E' hp he h
  obtain ⟨xs, hl, hx, k⟩ := h
  exact .mk xs hl hx (hp _ k)
theorem mo_cLaw2 : ∀ (ds : List D) (P P' : D → Prop) (E E' : EK), (∀ d, P d → P' d) → (∀ v ns es, E v ns es → E' v ns es) → cLaw2 ds P E → cLaw2 ds P' E' := by
  intro ds P P' E E' hp he h
  obtain ⟨a, b, c, d, h1, h2, k⟩ := h
  exact .mk a b c d h1 h2 (hp _ k)
theorem mo_cLaw : ∀ (ds : List D) (P P' : D → Prop) (E E' : EK), (∀ d, P d → P' d) → (∀ v ns es, E v ns es → E' v ns es) → cLaw ds P E → cLaw ds P' E' := by
  intro ds P P' E E' hp he h
  obtain ⟨ns, hl, hbits, k⟩ := h
  exact .mk ns hl hbits (hp _ k)
theorem mo_cBin {f : Int × Int → Int × Int → Int × Int} {ok : Int × Int → Int × Int → Prop} : ∀ (ds : List D) (P P' : D → Prop) (E E' : EK), (∀ d, P d → P' d) → (∀ v ns es, E v ns es → E' v ns es) → cBin f ok ds P E → cBin f ok ds P' E' := by
  intro ds P P' E E' hp he h
  obtain ⟨m, n, a, b, c, d, hb, hd, ho, ha, hb2, hc, hd2, hm, k⟩ := h
  exact .mk m n a b c d hb hd ho ha hb2 hc hd2 hm (hp _ k)
theorem mo_cRel {f : Int × Int → Int × Int → D} : ∀ (ds : List D) (P P' : D → Prop) (E E' : EK), (∀ d, P d → P' d) → (∀ v ns es, E v ns es → E' v ns es) → cRel f ds P E → cRel f ds P' E' := by
  intro ds P P' E E' hp he h
  obtain ⟨n, a, b, c, d, ha, hb, hc, hd, hm, k⟩ := h
  exact .mk n a b c d ha hb hc hd hm (hp _ k)
theorem mo_cSame {j : Nat} : ∀ (ds : List D) (P P' : D → Prop) (E E' : EK), (∀ d, P d → P' d) → (∀ v ns es, E v ns es → E' v ns es) → cSame j ds P E → cSame j ds P' E' := by
  intro ds P P' E E' hp he h
  obtain ⟨d, h, k⟩ := h
  exact .mk d h (hp _ k)
/-! ### what the top has written -/
theorem all_mk {l : PySem.W.OpenLaw} {w : World} {K : PySem.W.Frag} {h : Heap} {mg : Str → Option Value} {fa f0 f1 T1 f2 f3 f4 f5 f6 f7 f8 f9 f10 f11 f12 f13 f14 f15 f16 f17 f18 f19 f20 f21 f22 f23 f24 f25 f26 f27 f28 f29 f30 f31 : Addr} (X : K.In h) (G : h.Ns mainGlobals mg) (hfa : mg "law" = some (.ref fa))
    {od0 an0 od1 an1 od2 an2 od3 an3 od4 an4 od5 an5 od6 an6 od7 an7 od8 an8 od9 an9 od10 an10 od11 an11 od12 an12 od13 an13 od14 an14 od15 an15 od16 an16 od17 an17 od18 an18 od19 an19 od20 an20 od21 an21 od22 an22 od23 an23 od24 an24 od25 an25 od26 an26 od27 an27 od28 an28 od29 an29 od30 an30 od31 an31 odT1 : Option Addr} {sl0 sl1 sl2 sl3 sl4 sl5 sl6 sl7 sl8 sl9 sl10 sl11 sl12 sl13 sl14 sl15 sl16 sl17 sl18 sl19 sl20 sl21 sl22 sl23 sl24 sl25 sl26 sl27 sl28 sl29 sl30 sl31 : Array (Option Value)} {oc0 kV0 dc0 pm0 cd0 ct0 oc1 kV1 dc1 pm1 cd1 ct1 oc2 kV2 dc2 pm2 cd2 ct2 oc3 kV3 dc3 pm3 cd3 ct3 oc4 kV4 dc4 pm4 cd4 ct4 oc5 kV5 dc5 pm5 cd5 ct5 oc6 kV6 dc6 pm6 cd6 ct6 oc7 kV7 dc7 pm7 cd7 ct7 oc8 kV8 dc8 pm8 cd8 ct8 oc9 kV9 dc9 pm9 cd9 ct9 oc10 kV10 dc10 pm10 cd10 ct10 oc11 kV11 dc11 pm11 cd11 ct11 oc12 kV12 dc12 pm12 cd12 ct12 oc13 kV13 dc13 pm13 cd13 ct13 oc14 kV14 dc14 pm14 cd14 ct14 oc15 kV15 dc15 pm15 cd15 ct15 oc16 kV16 dc16 pm16 cd16 ct16 oc17 kV17 dc17 pm17 cd17 ct17 oc18 kV18 dc18 pm18 cd18 ct18 oc19 kV19 dc19 pm19 cd19 ct19 oc20 kV20 dc20 pm20 cd20 ct20 oc21 kV21 dc21 pm21 cd21 ct21 oc22 kV22 dc22 pm22 cd22 ct22 oc23 kV23 dc23 pm23 cd23 ct23 oc24 kV24 dc24 pm24 cd24 ct24 oc25 kV25 dc25 pm25 cd25 ct25 oc26 kV26 dc26 pm26 cd26 ct26 oc27 kV27 dc27 pm27 cd27 ct27 oc28 kV28 dc28 pm28 cd28 ct28 oc29 kV29 dc29 pm29 cd29 ct29 oc30 kV30 dc30 pm30 cd30 ct30 oc31 kV31 dc31 pm31 cd31 ct31 : Value} {ocT1 : Value} {tk1 : Tok} {nT1 : Nat} {slT1 : Array (Option Value)}
    (a0 : PySem.W.nsIn K mainGlobals "common_divisor" = some (some (.ref f0))) (l0 : K.lookup f0 = some ⟨oc0, od0, .func (PySem.W.fnOf "common_divisor" "common_divisor" (defArgs (top 4)) (defBody (top 4)) (defScope (top 4)) .none kV0 dc0 pm0 an0 cd0 ct0), sl0⟩) (c0 : PySem.W.codeIn K cd0 "common_divisor" = true) (k0 : PySem.W.keepIn K (.ref f0) = true)
    (a1 : PySem.W.nsIn K mainGlobals "part" = some (some (.ref f1))) (l1 : K.lookup f1 = some ⟨oc1, od1, .func (PySem.W.fnOf "part" "part" (defArgs (top 5)) (defBody (top 5)) (defScope (top 5)) (.ref T1) kV1 dc1 pm1 an1 cd1 ct1), sl1⟩) (c1 : PySem.W.codeIn K cd1 "part" = true) (k1 : PySem.W.keepIn K (.ref f1) = true)
    (lT1 : K.lookup T1 = some ⟨ocT1, odT1, .seq #[.int 1 tk1] nT1, slT1⟩)
    (a2 : PySem.W.nsIn K mainGlobals "plus" = some (some (.ref f2))) (l2 : K.lookup f2 = some ⟨oc2, od2, .func (PySem.W.fnOf "plus" "plus" (defArgs (top 6)) (defBody (top 6)) (defScope (top 6)) .none kV2 dc2 pm2 an2 cd2 ct2), sl2⟩) (c2 : PySem.W.codeIn K cd2 "plus" = true) (k2 : PySem.W.keepIn K (.ref f2) = true)
    (a3 : PySem.W.nsIn K mainGlobals "minus" = some (some (.ref f3))) (l3 : K.lookup f3 = some ⟨oc3, od3, .func (PySem.W.fnOf "minus" "minus" (defArgs (top 7)) (defBody (top 7)) (defScope (top 7)) .none kV3 dc3 pm3 an3 cd3 ct3), sl3⟩) (c3 : PySem.W.codeIn K cd3 "minus" = true) (k3 : PySem.W.keepIn K (.ref f3) = true)
    (a4 : PySem.W.nsIn K mainGlobals "times" = some (some (.ref f4))) (l4 : K.lookup f4 = some ⟨oc4, od4, .func (PySem.W.fnOf "times" "times" (defArgs (top 8)) (defBody (top 8)) (defScope (top 8)) .none kV4 dc4 pm4 an4 cd4 ct4), sl4⟩) (c4 : PySem.W.codeIn K cd4 "times" = true) (k4 : PySem.W.keepIn K (.ref f4) = true)
    (a5 : PySem.W.nsIn K mainGlobals "over" = some (some (.ref f5))) (l5 : K.lookup f5 = some ⟨oc5, od5, .func (PySem.W.fnOf "over" "over" (defArgs (top 9)) (defBody (top 9)) (defScope (top 9)) .none kV5 dc5 pm5 an5 cd5 ct5), sl5⟩) (c5 : PySem.W.codeIn K cd5 "over" = true) (k5 : PySem.W.keepIn K (.ref f5) = true)
    (a6 : PySem.W.nsIn K mainGlobals "raised" = some (some (.ref f6))) (l6 : K.lookup f6 = some ⟨oc6, od6, .func (PySem.W.fnOf "raised" "raised" (defArgs (top 10)) (defBody (top 10)) (defScope (top 10)) .none kV6 dc6 pm6 an6 cd6 ct6), sl6⟩) (c6 : PySem.W.codeIn K cd6 "raised" = true) (k6 : PySem.W.keepIn K (.ref f6) = true)
    (a7 : PySem.W.nsIn K mainGlobals "below" = some (some (.ref f7))) (l7 : K.lookup f7 = some ⟨oc7, od7, .func (PySem.W.fnOf "below" "below" (defArgs (top 11)) (defBody (top 11)) (defScope (top 11)) .none kV7 dc7 pm7 an7 cd7 ct7), sl7⟩) (c7 : PySem.W.codeIn K cd7 "below" = true) (k7 : PySem.W.keepIn K (.ref f7) = true)
    (a8 : PySem.W.nsIn K mainGlobals "compare" = some (some (.ref f8))) (l8 : K.lookup f8 = some ⟨oc8, od8, .func (PySem.W.fnOf "compare" "compare" (defArgs (top 12)) (defBody (top 12)) (defScope (top 12)) .none kV8 dc8 pm8 an8 cd8 ct8), sl8⟩) (c8 : PySem.W.codeIn K cd8 "compare" = true) (k8 : PySem.W.keepIn K (.ref f8) = true)
    (a9 : PySem.W.nsIn K mainGlobals "add_all" = some (some (.ref f9))) (l9 : K.lookup f9 = some ⟨oc9, od9, .func (PySem.W.fnOf "add_all" "add_all" (defArgs (top 13)) (defBody (top 13)) (defScope (top 13)) .none kV9 dc9 pm9 an9 cd9 ct9), sl9⟩) (c9 : PySem.W.codeIn K cd9 "add_all" = true) (k9 : PySem.W.keepIn K (.ref f9) = true)
    (a10 : PySem.W.nsIn K mainGlobals "_law_mixed" = some (some (.ref f10))) (l10 : K.lookup f10 = some ⟨oc10, od10, .func (PySem.W.fnOf "_law_mixed" "_law_mixed" (defArgs (top 15)) (defBody (top 15)) (defScope (top 15)) .none kV10 dc10 pm10 an10 cd10 ct10), sl10⟩) (c10 : PySem.W.codeIn K cd10 "_law_mixed" = true) (k10 : PySem.W.keepIn K (.ref f10) = true)
    (a11 : PySem.W.nsIn K mainGlobals "_law_draws" = some (some (.ref f11))) (l11 : K.lookup f11 = some ⟨oc11, od11, .func (PySem.W.fnOf "_law_draws" "_law_draws" (defArgs (top 16)) (defBody (top 16)) (defScope (top 16)) .none kV11 dc11 pm11 an11 cd11 ct11), sl11⟩) (c11 : PySem.W.codeIn K cd11 "_law_draws" = true) (k11 : PySem.W.keepIn K (.ref f11) = true)
    (a12 : PySem.W.nsIn K mainGlobals "_law_opened" = some (some (.ref f12))) (l12 : K.lookup f12 = some ⟨oc12, od12, .func (PySem.W.fnOf "_law_opened" "_law_opened" (defArgs (top 17)) (defBody (top 17)) (defScope (top 17)) .none kV12 dc12 pm12 an12 cd12 ct12), sl12⟩) (c12 : PySem.W.codeIn K cd12 "_law_opened" = true) (k12 : PySem.W.keepIn K (.ref f12) = true)
    (a13 : PySem.W.nsIn K mainGlobals "_law_take" = some (some (.ref f13))) (l13 : K.lookup f13 = some ⟨oc13, od13, .func (PySem.W.fnOf "_law_take" "_law_take" (defArgs (top 18)) (defBody (top 18)) (defScope (top 18)) .none kV13 dc13 pm13 an13 cd13 ct13), sl13⟩) (c13 : PySem.W.codeIn K cd13 "_law_take" = true) (k13 : PySem.W.keepIn K (.ref f13) = true)
    (a14 : PySem.W.nsIn K mainGlobals "_law_between" = some (some (.ref f14))) (l14 : K.lookup f14 = some ⟨oc14, od14, .func (PySem.W.fnOf "_law_between" "_law_between" (defArgs (top 19)) (defBody (top 19)) (defScope (top 19)) .none kV14 dc14 pm14 an14 cd14 ct14), sl14⟩) (c14 : PySem.W.codeIn K cd14 "_law_between" = true) (k14 : PySem.W.keepIn K (.ref f14) = true)
    (a15 : PySem.W.nsIn K mainGlobals "_law_pick" = some (some (.ref f15))) (l15 : K.lookup f15 = some ⟨oc15, od15, .func (PySem.W.fnOf "_law_pick" "_law_pick" (defArgs (top 20)) (defBody (top 20)) (defScope (top 20)) .none kV15 dc15 pm15 an15 cd15 ct15), sl15⟩) (c15 : PySem.W.codeIn K cd15 "_law_pick" = true) (k15 : PySem.W.keepIn K (.ref f15) = true)
    (a16 : PySem.W.nsIn K mainGlobals "_law_whole" = some (some (.ref f16))) (l16 : K.lookup f16 = some ⟨oc16, od16, .func (PySem.W.fnOf "_law_whole" "_law_whole" (defArgs (top 21)) (defBody (top 21)) (defScope (top 21)) .none kV16 dc16 pm16 an16 cd16 ct16), sl16⟩) (c16 : PySem.W.codeIn K cd16 "_law_whole" = true) (k16 : PySem.W.keepIn K (.ref f16) = true)
    (a17 : PySem.W.nsIn K mainGlobals "_law_gcd" = some (some (.ref f17))) (l17 : K.lookup f17 = some ⟨oc17, od17, .func (PySem.W.fnOf "_law_gcd" "_law_gcd" (defArgs (top 22)) (defBody (top 22)) (defScope (top 22)) .none kV17 dc17 pm17 an17 cd17 ct17), sl17⟩) (c17 : PySem.W.codeIn K cd17 "_law_gcd" = true) (k17 : PySem.W.keepIn K (.ref f17) = true)
    (a18 : PySem.W.nsIn K mainGlobals "_law_lowest" = some (some (.ref f18))) (l18 : K.lookup f18 = some ⟨oc18, od18, .func (PySem.W.fnOf "_law_lowest" "_law_lowest" (defArgs (top 23)) (defBody (top 23)) (defScope (top 23)) .none kV18 dc18 pm18 an18 cd18 ct18), sl18⟩) (c18 : PySem.W.codeIn K cd18 "_law_lowest" = true) (k18 : PySem.W.keepIn K (.ref f18) = true)
    (a19 : PySem.W.nsIn K mainGlobals "_law_small" = some (some (.ref f19))) (l19 : K.lookup f19 = some ⟨oc19, od19, .func (PySem.W.fnOf "_law_small" "_law_small" (defArgs (top 25)) (defBody (top 25)) (defScope (top 25)) .none kV19 dc19 pm19 an19 cd19 ct19), sl19⟩) (c19 : PySem.W.codeIn K cd19 "_law_small" = true) (k19 : PySem.W.keepIn K (.ref f19) = true)
    (a20 : PySem.W.nsIn K mainGlobals "_law_fraction" = some (some (.ref f20))) (l20 : K.lookup f20 = some ⟨oc20, od20, .func (PySem.W.fnOf "_law_fraction" "_law_fraction" (defArgs (top 24)) (defBody (top 24)) (defScope (top 24)) .none kV20 dc20 pm20 an20 cd20 ct20), sl20⟩) (c20 : PySem.W.codeIn K cd20 "_law_fraction" = true) (k20 : PySem.W.keepIn K (.ref f20) = true)
    (a21 : PySem.W.nsIn K mainGlobals "_law_raise" = some (some (.ref f21))) (l21 : K.lookup f21 = some ⟨oc21, od21, .func (PySem.W.fnOf "_law_raise" "_law_raise" (defArgs (top 26)) (defBody (top 26)) (defScope (top 26)) .none kV21 dc21 pm21 an21 cd21 ct21), sl21⟩) (c21 : PySem.W.codeIn K cd21 "_law_raise" = true) (k21 : PySem.W.keepIn K (.ref f21) = true)
    (a22 : PySem.W.nsIn K mainGlobals "_law_same" = some (some (.ref f22))) (l22 : K.lookup f22 = some ⟨oc22, od22, .func (PySem.W.fnOf "_law_same" "_law_same" (defArgs (top 27)) (defBody (top 27)) (defScope (top 27)) .none kV22 dc22 pm22 an22 cd22 ct22), sl22⟩) (c22 : PySem.W.codeIn K cd22 "_law_same" = true) (k22 : PySem.W.keepIn K (.ref f22) = true)
    (a23 : PySem.W.nsIn K mainGlobals "_law_is_integer" = some (some (.ref f23))) (l23 : K.lookup f23 = some ⟨oc23, od23, .func (PySem.W.fnOf "_law_is_integer" "_law_is_integer" (defArgs (top 28)) (defBody (top 28)) (defScope (top 28)) .none kV23 dc23 pm23 an23 cd23 ct23), sl23⟩) (c23 : PySem.W.codeIn K cd23 "_law_is_integer" = true) (k23 : PySem.W.keepIn K (.ref f23) = true)
    (a24 : PySem.W.nsIn K mainGlobals "_law_is_fraction" = some (some (.ref f24))) (l24 : K.lookup f24 = some ⟨oc24, od24, .func (PySem.W.fnOf "_law_is_fraction" "_law_is_fraction" (defArgs (top 29)) (defBody (top 29)) (defScope (top 29)) .none kV24 dc24 pm24 an24 cd24 ct24), sl24⟩) (c24 : PySem.W.codeIn K cd24 "_law_is_fraction" = true) (k24 : PySem.W.keepIn K (.ref f24) = true)
    (a25 : PySem.W.nsIn K mainGlobals "_law_couple" = some (some (.ref f25))) (l25 : K.lookup f25 = some ⟨oc25, od25, .func (PySem.W.fnOf "_law_couple" "_law_couple" (defArgs (top 30)) (defBody (top 30)) (defScope (top 30)) .none kV25 dc25 pm25 an25 cd25 ct25), sl25⟩) (c25 : PySem.W.codeIn K cd25 "_law_couple" = true) (k25 : PySem.W.keepIn K (.ref f25) = true)
    (a26 : PySem.W.nsIn K mainGlobals "_law_items" = some (some (.ref f26))) (l26 : K.lookup f26 = some ⟨oc26, od26, .func (PySem.W.fnOf "_law_items" "_law_items" (defArgs (top 31)) (defBody (top 31)) (defScope (top 31)) .none kV26 dc26 pm26 an26 cd26 ct26), sl26⟩) (c26 : PySem.W.codeIn K cd26 "_law_items" = true) (k26 : PySem.W.keepIn K (.ref f26) = true)
    (a27 : PySem.W.nsIn K mainGlobals "_law_ratio" = some (some (.ref f27))) (l27 : K.lookup f27 = some ⟨oc27, od27, .func (PySem.W.fnOf "_law_ratio" "_law_ratio" (defArgs (top 32)) (defBody (top 32)) (defScope (top 32)) .none kV27 dc27 pm27 an27 cd27 ct27), sl27⟩) (c27 : PySem.W.codeIn K cd27 "_law_ratio" = true) (k27 : PySem.W.keepIn K (.ref f27) = true)
    (a28 : PySem.W.nsIn K mainGlobals "_law_total" = some (some (.ref f28))) (l28 : K.lookup f28 = some ⟨oc28, od28, .func (PySem.W.fnOf "_law_total" "_law_total" (defArgs (top 33)) (defBody (top 33)) (defScope (top 33)) .none kV28 dc28 pm28 an28 cd28 ct28), sl28⟩) (c28 : PySem.W.codeIn K cd28 "_law_total" = true) (k28 : PySem.W.keepIn K (.ref f28) = true)
    (a29 : PySem.W.nsIn K mainGlobals "_law_arithmetic" = some (some (.ref f29))) (l29 : K.lookup f29 = some ⟨oc29, od29, .func (PySem.W.fnOf "_law_arithmetic" "_law_arithmetic" (defArgs (top 34)) (defBody (top 34)) (defScope (top 34)) .none kV29 dc29 pm29 an29 cd29 ct29), sl29⟩) (c29 : PySem.W.codeIn K cd29 "_law_arithmetic" = true) (k29 : PySem.W.keepIn K (.ref f29) = true)
    (a30 : PySem.W.nsIn K mainGlobals "_law_order" = some (some (.ref f30))) (l30 : K.lookup f30 = some ⟨oc30, od30, .func (PySem.W.fnOf "_law_order" "_law_order" (defArgs (top 35)) (defBody (top 35)) (defScope (top 35)) .none kV30 dc30 pm30 an30 cd30 ct30), sl30⟩) (c30 : PySem.W.codeIn K cd30 "_law_order" = true) (k30 : PySem.W.keepIn K (.ref f30) = true)
    (a31 : PySem.W.nsIn K mainGlobals "law" = some (some (.ref f31))) (l31 : K.lookup f31 = some ⟨oc31, od31, .func (PySem.W.fnOf "law" "law" (defArgs (top 36)) (defBody (top 36)) (defScope (top 36)) .none kV31 dc31 pm31 an31 cd31 ct31), sl31⟩) (c31 : PySem.W.codeIn K cd31 "law" = true) (k31 : PySem.W.keepIn K (.ref f31) = true)
    (z_abs : PySem.W.nsIn K mainGlobals "abs" = some none)
    (z_range : PySem.W.nsIn K mainGlobals "range" = some none)
    (z_int : PySem.W.nsIn K mainGlobals "int" = some none)
    (z_len : PySem.W.nsIn K mainGlobals "len" = some none)
    (z_list : PySem.W.nsIn K mainGlobals "list" = some none)
    (z_isinstance : PySem.W.nsIn K mainGlobals "isinstance" = some none)
    (z_bool : PySem.W.nsIn K mainGlobals "bool" = some none)
    (z_str : PySem.W.nsIn K mainGlobals "str" = some none)
    (z_dict : PySem.W.nsIn K mainGlobals "dict" = some none)
    (z_tuple : PySem.W.nsIn K mainGlobals "tuple" = some none)
    : ∃ fd : FuncData, (∀ (s : Shared) (v : Value), BindsTo s fd ⟨[v], []⟩ [("script", v)]) ∧ ∀ base : Heap, K.In base → base.Ns mainGlobals mg → FnOk l.prog w K mg base (L2.CX l.prog w) 8 fa fd ["script"] (spC K cLaw) := by
  have e := hfa.symm.trans (PySem.W.mg_of X G a31)
  cases e
  have FL : FunD K "law" "law" (defArgs (top 36)) (defBody (top 36)) (defScope (top 36)) [] [] fa _ := ⟨⟨oc31, od31, .none, kV31, dc31, pm31, an31, cd31, ct31, sl31, rfl, l31, c31, .inl ⟨rfl, rfl⟩, .inl rfl⟩, k31⟩
  refine ⟨_, fun s v => FL.bindsA (ps := ["script"]) (fun _ _ _ _ _ _ us hl => match us, hl with | [_], _ => rfl) s [v] rfl, fun base _ _ => ?_⟩
  let U : Env1 := ⟨l.prog, w, K, mg, base⟩
  have D_common_divisor : U.Def "common_divisor" ((S_gcd).lv + 1) [] (cGcd) := def_ok (j := 0) (n := 2) (ps := ["a", "b"]) (funAt (U := U) X G a0 l0 c0 k0) (ok_S (by decide +kernel)) rfl (ok_F (by decide +kernel)) rfl (by decide) (fun _ _ F => ⟨[], .nil, F.bindsN (ps := ["a", "b"]) fun _ _ _ _ _ _ us hl => match us, hl with | [_, _], _ => rfl⟩) (fun _ _ => .nil) (fun _ _ _ h => by cases h; rfl) mo_cGcd (fun G0 H0 ds P E h => b_gcd (blt_nil (U := U))  G0 H0 ds P E h)
  have D_part : U.Def "part" ((S_part).lv + 1) [] (cPart) := def_ok (j := 1) (n := 2) (ps := ["n", "d"]) (funAt1 (U := U) X G a1 l1 c1 k1 lT1) (ok_S (by decide +kernel)) rfl (ok_F (by decide +kernel)) rfl (by decide) (fun _ _ F => F.binds1 (ps := ["n", "d"]) 2 1 (by simp) rfl fun _ _ _ _ _ _ _ us its hu hi => match us, its, hu, hi with | [_, _], [_], _, _ => ⟨_, rfl, rfl⟩) (fun _ _ => .nil) (fun _ _ _ h => by cases h; rfl) mo_cPart (fun G0 H0 ds P E h => b_part (bs := []) (blt_cons (PySem.W.mg_none_of X G z_abs) blt_nil) D_common_divisor G0 H0 ds P E h)
  have D_plus : U.Def "plus" ((S_plus).lv + 1) [] (cBin plusF okT) := def_ok (j := 0) (n := 2) (ps := ["x", "y"]) (funAt (U := U) X G a2 l2 c2 k2) (ok_S (by decide +kernel)) rfl (ok_F (by decide +kernel)) rfl (by decide) (fun _ _ F => ⟨[], .nil, F.bindsN (ps := ["x", "y"]) fun _ _ _ _ _ _ us hl => match us, hl with | [_, _], _ => rfl⟩) (fun _ _ => .nil) (fun _ _ _ h => by cases h; rfl) mo_cBin (fun G0 H0 ds P E h => b_plus  D_part G0 H0 ds P E h)
  have D_minus : U.Def "minus" ((S_minus).lv + 1) [] (cBin minusF okT) := def_ok (j := 0) (n := 2) (ps := ["x", "y"]) (funAt (U := U) X G a3 l3 c3 k3) (ok_S (by decide +kernel)) rfl (ok_F (by decide +kernel)) rfl (by decide) (fun _ _ F => ⟨[], .nil, F.bindsN (ps := ["x", "y"]) fun _ _ _ _ _ _ us hl => match us, hl with | [_, _], _ => rfl⟩) (fun _ _ => .nil) (fun _ _ _ h => by cases h; rfl) mo_cBin (fun G0 H0 ds P E h => b_minus  D_part G0 H0 ds P E h)
  have D_times : U.Def "times" ((S_times).lv + 1) [] (cBin timesF okT) := def_ok (j := 0) (n := 2) (ps := ["x", "y"]) (funAt (U := U) X G a4 l4 c4 k4) (ok_S (by decide +kernel)) rfl (ok_F (by decide +kernel)) rfl (by decide) (fun _ _ F => ⟨[], .nil, F.bindsN (ps := ["x", "y"]) fun _ _ _ _ _ _ us hl => match us, hl with | [_, _], _ => rfl⟩) (fun _ _ => .nil) (fun _ _ _ h => by cases h; rfl) mo_cBin (fun G0 H0 ds P E h => b_times  D_part G0 H0 ds P E h)
  have D_over : U.Def "over" ((S_over).lv + 1) [] (cBin overF okN) := def_ok (j := 0) (n := 2) (ps := ["x", "y"]) (funAt (U := U) X G a5 l5 c5 k5) (ok_S (by decide +kernel)) rfl (ok_F (by decide +kernel)) rfl (by decide) (fun _ _ F => ⟨[], .nil, F.bindsN (ps := ["x", "y"]) fun _ _ _ _ _ _ us hl => match us, hl with | [_, _], _ => rfl⟩) (fun _ _ => .nil) (fun _ _ _ h => by cases h; rfl) mo_cBin (fun G0 H0 ds P E h => b_over  D_part G0 H0 ds P E h)
  have D_raised : U.Def "raised" ((S_raised).lv + 1) [] (cPow) := def_ok (j := 0) (n := 2) (ps := ["x", "k"]) (funAt (U := U) X G a6 l6 c6 k6) (ok_S (by decide +kernel)) rfl (ok_F (by decide +kernel)) rfl (by decide) (fun _ _ F => ⟨[], .nil, F.bindsN (ps := ["x", "k"]) fun _ _ _ _ _ _ us hl => match us, hl with | [_, _], _ => rfl⟩) (fun _ _ => .nil) (fun _ _ _ h => by cases h; rfl) mo_cPow (fun G0 H0 ds P E h => b_raised (blt_cons (PySem.W.mg_none_of X G z_range) blt_nil)  G0 H0 ds P E h)
  have D_below : U.Def "below" ((S_below).lv + 1) [] (cRel belowF) := def_ok (j := 0) (n := 2) (ps := ["x", "y"]) (funAt (U := U) X G a7 l7 c7 k7) (ok_S (by decide +kernel)) rfl (ok_F (by decide +kernel)) rfl (by decide) (fun _ _ F => ⟨[], .nil, F.bindsN (ps := ["x", "y"]) fun _ _ _ _ _ _ us hl => match us, hl with | [_, _], _ => rfl⟩) (fun _ _ => .nil) (fun _ _ _ h => by cases h; rfl) mo_cRel (fun G0 H0 ds P E h => b_below   G0 H0 ds P E h)
  have D_compare : U.Def "compare" ((S_compare).lv + 1) [] (cRel compareF) := def_ok (j := 0) (n := 2) (ps := ["x", "y"]) (funAt (U := U) X G a8 l8 c8 k8) (ok_S (by decide +kernel)) rfl (ok_F (by decide +kernel)) rfl (by decide) (fun _ _ F => ⟨[], .nil, F.bindsN (ps := ["x", "y"]) fun _ _ _ _ _ _ us hl => match us, hl with | [_, _], _ => rfl⟩) (fun _ _ => .nil) (fun _ _ _ h => by cases h; rfl) mo_cRel (fun G0 H0 ds P E h => b_compare   G0 H0 ds P E h)
  have D_add_all : U.Def "add_all" ((S_addall).lv + 1) [] (cSum) := def_ok (j := 0) (n := 1) (ps := ["xs"]) (funAt (U := U) X G a9 l9 c9 k9) (ok_S (by decide +kernel)) rfl (ok_F (by decide +kernel)) rfl (by decide) (fun _ _ F => ⟨[], .nil, F.bindsN (ps := ["xs"]) fun _ _ _ _ _ _ us hl => match us, hl with | [_], _ => rfl⟩) (fun _ _ => .nil) (fun _ _ _ h => by cases h; rfl) mo_cSum (fun G0 H0 ds P E h => b_addall  D_plus G0 H0 ds P E h)
  have D_law_mixed : U.Def "_law_mixed" ((S_mixed).lv + 1) [] (cMixed) := def_ok (j := 0) (n := 3) (ps := ["number", "turn", "many"]) (funAt (U := U) X G a10 l10 c10 k10) (ok_S (by decide +kernel)) rfl (ok_F (by decide +kernel)) rfl (by decide) (fun _ _ F => ⟨[], .nil, F.bindsN (ps := ["number", "turn", "many"]) fun _ _ _ _ _ _ us hl => match us, hl with | [_, _, _], _ => rfl⟩) (fun _ _ => .nil) (fun _ _ _ h => by cases h; rfl) mo_cMixed (fun G0 H0 ds P E h => b_mixed (blt_cons (PySem.W.mg_none_of X G z_range) (blt_cons (PySem.W.mg_none_of X G z_int) blt_nil))  G0 H0 ds P E h)
  have D_law_draws : U.Def "_law_draws" ((S_draws).lv + 1) [] (cDraws) := def_ok (j := 0) (n := 1) (ps := ["script"]) (funAt (U := U) X G a11 l11 c11 k11) (ok_S (by decide +kernel)) rfl (ok_F (by decide +kernel)) rfl (by decide) (fun _ _ F => ⟨[], .nil, F.bindsN (ps := ["script"]) fun _ _ _ _ _ _ us hl => match us, hl with | [_], _ => rfl⟩) (fun _ _ => .nil) (fun _ _ _ h => by cases h; rfl) mo_cDraws (fun G0 H0 ds P E h => b_draws (blt_cons (PySem.W.mg_none_of X G z_int) (blt_cons (PySem.W.mg_none_of X G z_len) (blt_cons (PySem.W.mg_none_of X G z_list) blt_nil)))  G0 H0 ds P E h)
  have D_law_opened : U.Def "_law_opened" ((S_opened).lv + 1) [] (cOpened) := def_ok (j := 0) (n := 1) (ps := ["store"]) (funAt (U := U) X G a12 l12 c12 k12) (ok_S (by decide +kernel)) rfl (ok_F (by decide +kernel)) rfl (by decide) (fun _ _ F => ⟨[], .nil, F.bindsN (ps := ["store"]) fun _ _ _ _ _ _ us hl => match us, hl with | [_], _ => rfl⟩) (fun _ _ => .nil) (fun _ _ _ h => by cases h; rfl) mo_cOpened (fun G0 H0 ds P E h => b_opened (blt_cons (PySem.W.mg_none_of X G z_int) (blt_cons (PySem.W.mg_none_of X G z_len) (blt_cons (PySem.W.mg_none_of X G z_range) blt_nil)))  G0 H0 ds P E h)
  have D_law_take : U.Def "_law_take" ((S_take).lv + 1) [] (cTake) := def_ok (j := 0) (n := 2) (ps := ["store", "many"]) (funAt (U := U) X G a13 l13 c13 k13) (ok_S (by decide +kernel)) rfl (ok_F (by decide +kernel)) rfl (by decide) (fun _ _ F => ⟨[], .nil, F.bindsN (ps := ["store", "many"]) fun _ _ _ _ _ _ us hl => match us, hl with | [_, _], _ => rfl⟩) (fun _ _ => .nil) (fun _ _ _ h => by cases h; rfl) mo_cTake (fun G0 H0 ds P E h => b_take (blt_cons (PySem.W.mg_none_of X G z_int) blt_nil) D_law_mixed D_law_opened G0 H0 ds P E h)
  have D_law_between : U.Def "_law_between" ((S_between).lv + 1) [] (cBetween) := def_ok (j := 0) (n := 3) (ps := ["store", "low", "high"]) (funAt (U := U) X G a14 l14 c14 k14) (ok_S (by decide +kernel)) rfl (ok_F (by decide +kernel)) rfl (by decide) (fun _ _ F => ⟨[], .nil, F.bindsN (ps := ["store", "low", "high"]) fun _ _ _ _ _ _ us hl => match us, hl with | [_, _, _], _ => rfl⟩) (fun _ _ => .nil) (fun _ _ _ h => by cases h; rfl) mo_cBetween (fun G0 H0 ds P E h => b_between  D_law_take G0 H0 ds P E h)
  have D_law_pick : U.Def "_law_pick" ((S_pick).lv + 1) [] (cPick) := def_ok (j := 0) (n := 2) (ps := ["store", "items"]) (funAt (U := U) X G a15 l15 c15 k15) (ok_S (by decide +kernel)) rfl (ok_F (by decide +kernel)) rfl (by decide) (fun _ _ F => ⟨[], .nil, F.bindsN (ps := ["store", "items"]) fun _ _ _ _ _ _ us hl => match us, hl with | [_, _], _ => rfl⟩) (fun _ _ => .nil) (fun _ _ _ h => by cases h; rfl) mo_cPick (fun G0 H0 ds P E h => b_pick (blt_cons (PySem.W.mg_none_of X G z_len) blt_nil) D_law_take G0 H0 ds P E h)
  have D_law_whole : U.Def "_law_whole" ((S_whole).lv + 1) [] (cWhole) := def_ok (j := 0) (n := 1) (ps := ["store"]) (funAt (U := U) X G a16 l16 c16 k16) (ok_S (by decide +kernel)) rfl (ok_F (by decide +kernel)) rfl (by decide) (fun _ _ F => ⟨[], .nil, F.bindsN (ps := ["store"]) fun _ _ _ _ _ _ us hl => match us, hl with | [_], _ => rfl⟩) (fun _ _ => .nil) (fun _ _ _ h => by cases h; rfl) mo_cWhole (fun G0 H0 ds P E h => b_whole  D_law_take D_law_pick G0 H0 ds P E h)
  have D_law_gcd : U.Def "_law_gcd" ((S_lgcd).lv + 1) [] (cLgcd) := def_ok (j := 0) (n := 2) (ps := ["one", "other"]) (funAt (U := U) X G a17 l17 c17 k17) (ok_S (by decide +kernel)) rfl (ok_F (by decide +kernel)) rfl (by decide) (fun _ _ F => ⟨[], .nil, F.bindsN (ps := ["one", "other"]) fun _ _ _ _ _ _ us hl => match us, hl with | [_, _], _ => rfl⟩) (fun _ _ => .nil) (fun _ _ _ h => by cases h; rfl) mo_cLgcd (fun G0 H0 ds P E h => b_lgcd (blt_cons (PySem.W.mg_none_of X G z_abs) (blt_cons (PySem.W.mg_none_of X G z_int) blt_nil))  G0 H0 ds P E h)
  have D_law_lowest : U.Def "_law_lowest" ((S_lowest).lv + 1) [] (cLowest) := def_ok (j := 0) (n := 2) (ps := ["n", "d"]) (funAt (U := U) X G a18 l18 c18 k18) (ok_S (by decide +kernel)) rfl (ok_F (by decide +kernel)) rfl (by decide) (fun _ _ F => ⟨[], .nil, F.bindsN (ps := ["n", "d"]) fun _ _ _ _ _ _ us hl => match us, hl with | [_, _], _ => rfl⟩) (fun _ _ => .nil) (fun _ _ _ h => by cases h; rfl) mo_cLowest (fun G0 H0 ds P E h => b_lowest  D_law_gcd G0 H0 ds P E h)
  have D_law_small : U.Def "_law_small" ((S_small).lv + 1) [] (cFrac) := def_ok (j := 0) (n := 1) (ps := ["store"]) (funAt (U := U) X G a19 l19 c19 k19) (ok_S (by decide +kernel)) rfl (ok_F (by decide +kernel)) rfl (by decide) (fun _ _ F => ⟨[], .nil, F.bindsN (ps := ["store"]) fun _ _ _ _ _ _ us hl => match us, hl with | [_], _ => rfl⟩) (fun _ _ => .nil) (fun _ _ _ h => by cases h; rfl) mo_cFrac (fun G0 H0 ds P E h => b_small  D_law_take D_law_pick D_law_lowest G0 H0 ds P E h)
  have D_law_fraction : U.Def "_law_fraction" ((S_fraction).lv + 1) [] (cFrac) := def_ok (j := 0) (n := 1) (ps := ["store"]) (funAt (U := U) X G a20 l20 c20 k20) (ok_S (by decide +kernel)) rfl (ok_F (by decide +kernel)) rfl (by decide) (fun _ _ F => ⟨[], .nil, F.bindsN (ps := ["store"]) fun _ _ _ _ _ _ us hl => match us, hl with | [_], _ => rfl⟩) (fun _ _ => .nil) (fun _ _ _ h => by cases h; rfl) mo_cFrac (fun G0 H0 ds P E h => b_fraction  D_law_take D_law_pick D_law_lowest D_law_between D_law_whole D_law_small G0 H0 ds P E h)
  have D_law_raise : U.Def "_law_raise" ((S_lraise).lv + 1) [] (cPow) := def_ok (j := 0) (n := 2) (ps := ["x", "k"]) (funAt (U := U) X G a21 l21 c21 k21) (ok_S (by decide +kernel)) rfl (ok_F (by decide +kernel)) rfl (by decide) (fun _ _ F => ⟨[], .nil, F.bindsN (ps := ["x", "k"]) fun _ _ _ _ _ _ us hl => match us, hl with | [_, _], _ => rfl⟩) (fun _ _ => .nil) (fun _ _ _ h => by cases h; rfl) mo_cPow (fun G0 H0 ds P E h => b_lraise (blt_cons (PySem.W.mg_none_of X G z_range) blt_nil)  G0 H0 ds P E h)
  have D_law_same0 : U.Def "_law_same" ((S_same 0).lv + 1) [] (cSame 0) := def_ok (j := 0) (n := 2) (ps := ["actual", "expected"]) (funAt (U := U) X G a22 l22 c22 k22) (ok_S (by decide +kernel)) rfl (ok_F (by decide +kernel)) rfl (by decide) (fun _ _ F => ⟨[], .nil, F.bindsN (ps := ["actual", "expected"]) fun _ _ _ _ _ _ us hl => match us, hl with | [_, _], _ => rfl⟩) (fun _ _ => .nil) (fun _ _ _ h => by cases h; rfl) mo_cSame (fun G0 H0 ds P E h => b_same (blt_cons (PySem.W.mg_none_of X G z_isinstance) (blt_cons (PySem.W.mg_none_of X G z_bool) (blt_cons (PySem.W.mg_none_of X G z_int) (blt_cons (PySem.W.mg_none_of X G z_str) (blt_cons (PySem.W.mg_none_of X G z_dict) (blt_cons (PySem.W.mg_none_of X G z_len) (blt_cons (PySem.W.mg_none_of X G z_list) (blt_cons (PySem.W.mg_none_of X G z_tuple) (blt_cons (PySem.W.mg_none_of X G z_range) blt_nil))))))))) 0 (fun _ h => nomatch h) G0 H0 ds P E h)
  have D_law_same1 : U.Def "_law_same" ((S_same 1).lv + 1) [] (cSame 1) := def_ok (j := 0) (n := 2) (ps := ["actual", "expected"]) (funAt (U := U) X G a22 l22 c22 k22) (ok_S (by decide +kernel)) rfl (ok_F (by decide +kernel)) rfl (by decide) (fun _ _ F => ⟨[], .nil, F.bindsN (ps := ["actual", "expected"]) fun _ _ _ _ _ _ us hl => match us, hl with | [_, _], _ => rfl⟩) (fun _ _ => .nil) (fun _ _ _ h => by cases h; rfl) mo_cSame (fun G0 H0 ds P E h => b_same (blt_cons (PySem.W.mg_none_of X G z_isinstance) (blt_cons (PySem.W.mg_none_of X G z_bool) (blt_cons (PySem.W.mg_none_of X G z_int) (blt_cons (PySem.W.mg_none_of X G z_str) (blt_cons (PySem.W.mg_none_of X G z_dict) (blt_cons (PySem.W.mg_none_of X G z_len) (blt_cons (PySem.W.mg_none_of X G z_list) (blt_cons (PySem.W.mg_none_of X G z_tuple) (blt_cons (PySem.W.mg_none_of X G z_range) blt_nil))))))))) 1 (fun _ h => by cases h; exact D_law_same0) G0 H0 ds P E h)
  have D_law_same2 : U.Def "_law_same" ((S_same 2).lv + 1) [] (cSame 2) := def_ok (j := 0) (n := 2) (ps := ["actual", "expected"]) (funAt (U := U) X G a22 l22 c22 k22) (ok_S (by decide +kernel)) rfl (ok_F (by decide +kernel)) rfl (by decide) (fun _ _ F => ⟨[], .nil, F.bindsN (ps := ["actual", "expected"]) fun _ _ _ _ _ _ us hl => match us, hl with | [_, _], _ => rfl⟩) (fun _ _ => .nil) (fun _ _ _ h => by cases h; rfl) mo_cSame (fun G0 H0 ds P E h => b_same (blt_cons (PySem.W.mg_none_of X G z_isinstance) (blt_cons (PySem.W.mg_none_of X G z_bool) (blt_cons (PySem.W.mg_none_of X G z_int) (blt_cons (PySem.W.mg_none_of X G z_str) (blt_cons (PySem.W.mg_none_of X G z_dict) (blt_cons (PySem.W.mg_none_of X G z_len) (blt_cons (PySem.W.mg_none_of X G z_list) (blt_cons (PySem.W.mg_none_of X G z_tuple) (blt_cons (PySem.W.mg_none_of X G z_range) blt_nil))))))))) 2 (fun _ h => by cases h; exact D_law_same1) G0 H0 ds P E h)
  have D_law_is_integer : U.Def "_law_is_integer" ((S_isint).lv + 1) [] (cIsInt) := def_ok (j := 0) (n := 1) (ps := ["actual"]) (funAt (U := U) X G a23 l23 c23 k23) (ok_S (by decide +kernel)) rfl (ok_F (by decide +kernel)) rfl (by decide) (fun _ _ F => ⟨[], .nil, F.bindsN (ps := ["actual"]) fun _ _ _ _ _ _ us hl => match us, hl with | [_], _ => rfl⟩) (fun _ _ => .nil) (fun _ _ _ h => by cases h; rfl) mo_cIsInt (fun G0 H0 ds P E h => b_isint (blt_cons (PySem.W.mg_none_of X G z_isinstance) (blt_cons (PySem.W.mg_none_of X G z_int) (blt_cons (PySem.W.mg_none_of X G z_bool) blt_nil)))  G0 H0 ds P E h)
  have D_law_is_fraction : U.Def "_law_is_fraction" ((S_isfr).lv + 1) [] (cIsFr) := def_ok (j := 0) (n := 1) (ps := ["actual"]) (funAt (U := U) X G a24 l24 c24 k24) (ok_S (by decide +kernel)) rfl (ok_F (by decide +kernel)) rfl (by decide) (fun _ _ F => ⟨[], .nil, F.bindsN (ps := ["actual"]) fun _ _ _ _ _ _ us hl => match us, hl with | [_], _ => rfl⟩) (fun _ _ => .nil) (fun _ _ _ h => by cases h; rfl) mo_cIsFr (fun G0 H0 ds P E h => b_isfr (blt_cons (PySem.W.mg_none_of X G z_isinstance) (blt_cons (PySem.W.mg_none_of X G z_tuple) (blt_cons (PySem.W.mg_none_of X G z_len) blt_nil))) D_law_is_integer D_law_gcd G0 H0 ds P E h)
  have D_law_couple : U.Def "_law_couple" ((S_couple).lv + 1) [] (cCouple) := def_ok (j := 0) (n := 1) (ps := ["store"]) (funAt (U := U) X G a25 l25 c25 k25) (ok_S (by decide +kernel)) rfl (ok_F (by decide +kernel)) rfl (by decide) (fun _ _ F => ⟨[], .nil, F.bindsN (ps := ["store"]) fun _ _ _ _ _ _ us hl => match us, hl with | [_], _ => rfl⟩) (fun _ _ => .nil) (fun _ _ _ h => by cases h; rfl) mo_cCouple (fun G0 H0 ds P E h => b_couple  D_law_take D_law_pick D_law_fraction G0 H0 ds P E h)
  have D_law_items : U.Def "_law_items" ((S_items).lv + 1) [] (cItems) := def_ok (j := 0) (n := 1) (ps := ["store"]) (funAt (U := U) X G a26 l26 c26 k26) (ok_S (by decide +kernel)) rfl (ok_F (by decide +kernel)) rfl (by decide) (fun _ _ F => ⟨[], .nil, F.bindsN (ps := ["store"]) fun _ _ _ _ _ _ us hl => match us, hl with | [_], _ => rfl⟩) (fun _ _ => .nil) (fun _ _ _ h => by cases h; rfl) mo_cItems (fun G0 H0 ds P E h => b_items (blt_cons (PySem.W.mg_none_of X G z_range) blt_nil) D_law_take D_law_fraction D_law_small D_law_between G0 H0 ds P E h)
  have D_law_ratio : U.Def "_law_ratio" ((S_ratio).lv + 1) [] (cRatio) := def_ok (j := 0) (n := 3) (ps := ["actual", "n", "d"]) (funAt (U := U) X G a27 l27 c27 k27) (ok_S (by decide +kernel)) rfl (ok_F (by decide +kernel)) rfl (by decide) (fun _ _ F => ⟨[], .nil, F.bindsN (ps := ["actual", "n", "d"]) fun _ _ _ _ _ _ us hl => match us, hl with | [_, _, _], _ => rfl⟩) (fun _ _ => .nil) (fun _ _ _ h => by cases h; rfl) mo_cRatio (fun G0 H0 ds P E h => b_ratio  D_law_is_fraction G0 H0 ds P E h)
  have D_law_total : U.Def "_law_total" ((S_total).lv + 1) [] (cTotal) := def_ok (j := 0) (n := 1) (ps := ["items"]) (funAt (U := U) X G a28 l28 c28 k28) (ok_S (by decide +kernel)) rfl (ok_F (by decide +kernel)) rfl (by decide) (fun _ _ F => ⟨[], .nil, F.bindsN (ps := ["items"]) fun _ _ _ _ _ _ us hl => match us, hl with | [_], _ => rfl⟩) (fun _ _ => .nil) (fun _ _ _ h => by cases h; rfl) mo_cTotal (fun G0 H0 ds P E h => b_total   G0 H0 ds P E h)
  have D_law_arithmetic : U.Def "_law_arithmetic" ((S_arith).lv + 1) [] (cLaw2) := def_ok (j := 0) (n := 2) (ps := ["x", "y"]) (funAt (U := U) X G a29 l29 c29 k29) (ok_S (by decide +kernel)) rfl (ok_F (by decide +kernel)) rfl (by decide) (fun _ _ F => ⟨[], .nil, F.bindsN (ps := ["x", "y"]) fun _ _ _ _ _ _ us hl => match us, hl with | [_, _], _ => rfl⟩) (fun _ _ => .nil) (fun _ _ _ h => by cases h; rfl) mo_cLaw2 (fun G0 H0 ds P E h => b_arith  D_plus D_minus D_times D_over D_law_ratio D_law_same1 G0 H0 ds P E h)
  have D_law_order : U.Def "_law_order" ((S_order).lv + 1) [] (cLaw2) := def_ok (j := 0) (n := 2) (ps := ["x", "y"]) (funAt (U := U) X G a30 l30 c30 k30) (ok_S (by decide +kernel)) rfl (ok_F (by decide +kernel)) rfl (by decide) (fun _ _ F => ⟨[], .nil, F.bindsN (ps := ["x", "y"]) fun _ _ _ _ _ _ us hl => match us, hl with | [_, _], _ => rfl⟩) (fun _ _ => .nil) (fun _ _ _ h => by cases h; rfl) mo_cLaw2 (fun G0 H0 ds P E h => b_order (blt_cons (PySem.W.mg_none_of X G z_int) blt_nil) D_below D_compare D_law_same1 G0 H0 ds P E h)
  exact fn_okC (U := U) (n := 1) FL (ok_S (S := S_law) (by decide +kernel)) rfl (ok_F (by decide +kernel)) rfl (by decide) (fun _ _ _ h => by cases h; rfl) (fun G0 H0 ds P E h => b_law (blt_cons (PySem.W.mg_none_of X G z_range) (blt_cons (PySem.W.mg_none_of X G z_list) (blt_cons (PySem.W.mg_none_of X G z_len) blt_nil))) D_law_draws D_law_couple D_law_between D_law_items D_law_total D_law_arithmetic D_law_order D_law_same2 D_raised D_law_raise D_add_all D_law_ratio G0 H0 ds P E h)
end Z
open PySem PySem.W PyProof.Rows
set_option maxRecDepth 100000 in
set_option maxHeartbeats 0 in
theorem PySem.Challenge.cw_onetelling_k01_fraction_arithmetic_holds : PySem.Challenge.rw_onetelling_k01_fraction_arithmetic.Holds := by
  w_on; o_law; k_head; (case hw => w_witness2)
  k_fill
  refine Z.law_walk (l := PySem.Challenge.rw_onetelling_k01_fraction_arithmetic) (k := 8) (x := "script") rfl rfl ⟨rfl, by decide, by decide⟩ (fun w h Y => PySem.W.kIn_of Y) ?F
  case F =>
    intro w mg fa h KX G hmg
    refine' Z.all_mk KX G hmg ?a0 ?l0 ?c0 ?k0 ?a1 ?l1 ?c1 ?k1 ?lT1 ?a2 ?l2 ?c2 ?k2 ?a3 ?l3 ?c3 ?k3 ?a4 ?l4 ?c4 ?k4 ?a5 ?l5 ?c5 ?k5 ?a6 ?l6 ?c6 ?k6 ?a7 ?l7 ?c7 ?k7 ?a8 ?l8 ?c8 ?k8 ?a9 ?l9 ?c9 ?k9 ?a10 ?l10 ?c10 ?k10 ?a11 ?l11 ?c11 ?k11 ?a12 ?l12 ?c12 ?k12 ?a13 ?l13 ?c13 ?k13 ?a14 ?l14 ?c14 ?k14 ?a15 ?l15 ?c15 ?k15 ?a16 ?l16 ?c16 ?k16 ?a17 ?l17 ?c17 ?k17 ?a18 ?l18 ?c18 ?k18 ?a19 ?l19 ?c19 ?k19 ?a20 ?l20 ?c20 ?k20 ?a21 ?l21 ?c21 ?k21 ?a22 ?l22 ?c22 ?k22 ?a23 ?l23 ?c23 ?k23 ?a24 ?l24 ?c24 ?k24 ?a25 ?l25 ?c25 ?k25 ?a26 ?l26 ?c26 ?k26 ?a27 ?l27 ?c27 ?k27 ?a28 ?l28 ?c28 ?k28 ?a29 ?l29 ?c29 ?k29 ?a30 ?l30 ?c30 ?k30 ?a31 ?l31 ?c31 ?k31 ?z_abs ?z_range ?z_int ?z_len ?z_list ?z_isinstance ?z_bool ?z_str ?z_dict ?z_tuple
    (case a0 => k_is); (case l0 => k_is); (case c0 => k_is); (case k0 => k_is)
    (case a1 => k_is); (case l1 => k_is); (case c1 => k_is); (case k1 => k_is)
    (case lT1 => k_is); (case a2 => k_is); (case l2 => k_is); (case c2 => k_is)
    (case k2 => k_is); (case a3 => k_is); (case l3 => k_is); (case c3 => k_is)
    (case k3 => k_is); (case a4 => k_is); (case l4 => k_is); (case c4 => k_is)
    (case k4 => k_is); (case a5 => k_is); (case l5 => k_is); (case c5 => k_is)
    (case k5 => k_is); (case a6 => k_is); (case l6 => k_is); (case c6 => k_is)
    (case k6 => k_is); (case a7 => k_is); (case l7 => k_is); (case c7 => k_is)
    (case k7 => k_is); (case a8 => k_is); (case l8 => k_is); (case c8 => k_is)
    (case k8 => k_is); (case a9 => k_is); (case l9 => k_is); (case c9 => k_is)
    (case k9 => k_is); (case a10 => k_is); (case l10 => k_is); (case c10 => k_is)
    (case k10 => k_is); (case a11 => k_is); (case l11 => k_is); (case c11 => k_is)
    (case k11 => k_is); (case a12 => k_is); (case l12 => k_is); (case c12 => k_is)
    (case k12 => k_is); (case a13 => k_is); (case l13 => k_is); (case c13 => k_is)
    (case k13 => k_is); (case a14 => k_is); (case l14 => k_is); (case c14 => k_is)
    (case k14 => k_is); (case a15 => k_is); (case l15 => k_is); (case c15 => k_is)
    (case k15 => k_is); (case a16 => k_is); (case l16 => k_is); (case c16 => k_is)
    (case k16 => k_is); (case a17 => k_is); (case l17 => k_is); (case c17 => k_is)
    (case k17 => k_is); (case a18 => k_is); (case l18 => k_is); (case c18 => k_is)
    (case k18 => k_is); (case a19 => k_is); (case l19 => k_is); (case c19 => k_is)
    (case k19 => k_is); (case a20 => k_is); (case l20 => k_is); (case c20 => k_is)
    (case k20 => k_is); (case a21 => k_is); (case l21 => k_is); (case c21 => k_is)
    (case k21 => k_is); (case a22 => k_is); (case l22 => k_is); (case c22 => k_is)
    (case k22 => k_is); (case a23 => k_is); (case l23 => k_is); (case c23 => k_is)
    (case k23 => k_is); (case a24 => k_is); (case l24 => k_is); (case c24 => k_is)
    (case k24 => k_is); (case a25 => k_is); (case l25 => k_is); (case c25 => k_is)
    (case k25 => k_is); (case a26 => k_is); (case l26 => k_is); (case c26 => k_is)
    (case k26 => k_is); (case a27 => k_is); (case l27 => k_is); (case c27 => k_is)
    (case k27 => k_is); (case a28 => k_is); (case l28 => k_is); (case c28 => k_is)
    (case k28 => k_is); (case a29 => k_is); (case l29 => k_is); (case c29 => k_is)
    (case k29 => k_is); (case a30 => k_is); (case l30 => k_is); (case c30 => k_is)
    (case k30 => k_is); (case a31 => k_is); (case l31 => k_is); (case c31 => k_is)
    (case k31 => k_is); (case z_abs => k_is); (case z_range => k_is); (case z_int => k_is)
    (case z_len => k_is); (case z_list => k_is); (case z_isinstance => k_is); (case z_bool => k_is)
    (case z_str => k_is); (case z_dict => k_is); (case z_tuple => k_is)
