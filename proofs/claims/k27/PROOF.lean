import PyProof.Rows.All
import HandS.ForMost
import HandS.ForExc
import HandS.Wide
import HandS.IsInst
import HandS.Flow
import HandS.Style
import KE.SortKeyHeap
import HandS.Set
import HandS.SetFor
import HandS.SortKw
import KE.DatumOrd
import PySem.Challenge.RW_nailhang_k27_whole_change_places
set_option Elab.async false
set_option linter.all false
set_option maxRecDepth 100000
set_option maxHeartbeats 2000000
/-! Data over the hand layer: what an expression tells as data, with no heap in sight. -/
namespace NL
open PySem PySem.Spec L2
open PyProof.Rows hiding St

class KC where
  K : PySem.W.Frag
variable [KC]
inductive D where
  | non | bl (b : Bool) | int (i : Int) | str (s : Str) | lst (xs : List D) | tup (xs : List D) | dct (ks : List Key) (xs : List D) | ref (a : Addr) | scr (ns : List Int)

mutual
def Dat (S : Hp) : D → V → Prop
  | .non, v => v = .non
  | .bl b, v => v = .bl b
  | .int i, v => v = .int i
  | .str s, v => v = .str s
  | .lst xs, v => ∃ a vs, v = .ref a ∧ S a = some (.lst vs) ∧ Dats S xs vs
  | .tup xs, v => ∃ a vs, v = .ref a ∧ S a = some (.tup vs) ∧ Dats S xs vs
  | .dct ks xs, v => ∃ a kvs, v = .ref a ∧ S a = some (.dK kvs) ∧ kvs.map (·.1) = ks ∧ Dats S xs (kvs.map (·.2))
  | .ref a, v => v = .ref a
  | .scr ns, v => ∃ a, v = .ref a ∧ SqL KC.K S a (ns.map V.int)
def Dats (S : Hp) : List D → List V → Prop
  | [], vs => vs = []
  | x :: xs, vs => ∃ v r, vs = v :: r ∧ Dat S x v ∧ Dats S xs r
end

theorem same_rd {S T : Hp} {a : Addr} {u : HO} (e : Same S T) (h : Rd S a u) : Rd T a u := by
  rcases h with h | ⟨o, h⟩
  · exact .inl (e _ _ h)
  · exact .inr ⟨o, e _ _ h⟩
mutual
theorem Dat.mono {S T : Hp} (e : Same S T) : ∀ (d : D) (v : V), Dat S d v → Dat T d v
  | .non, _, h => h
  | .bl _, _, h => h
  | .int _, _, h => h
  | .str _, _, h => h
  | .ref _, _, h => h
  | .scr ns, v, h => by
    unfold Dat at h ⊢
    obtain ⟨a, h1, h2⟩ := h
    exact ⟨a, h1, e.seq h2⟩
  | .lst xs, v, h => by
    unfold Dat at h ⊢
    obtain ⟨a, vs, h1, h2, h3⟩ := h
    exact ⟨a, vs, h1, e _ _ h2, Dats.mono e xs vs h3⟩
  | .tup xs, v, h => by
    unfold Dat at h ⊢
    obtain ⟨a, vs, h1, h2, h3⟩ := h
    exact ⟨a, vs, h1, e _ _ h2, Dats.mono e xs vs h3⟩
  | .dct ks xs, v, h => by
    unfold Dat at h ⊢
    obtain ⟨a, kvs, h1, h2, h3, h4⟩ := h
    exact ⟨a, kvs, h1, e _ _ h2, h3, Dats.mono e xs _ h4⟩
theorem Dats.mono {S T : Hp} (e : Same S T) : ∀ (xs : List D) (vs : List V), Dats S xs vs → Dats T xs vs
  | [], _, h => h
  | x :: xs, vs, h => by
    unfold Dats at h ⊢
    obtain ⟨v, r, h1, h2, h3⟩ := h
    exact ⟨v, r, h1, Dat.mono e x v h2, Dats.mono e xs r h3⟩
end
section
variable {S T : Hp}
theorem Dats.len : ∀ {xs : List D} {vs : List V}, Dats S xs vs → vs.length = xs.length
  | [], _, h => by unfold Dats at h; subst h; rfl
  | x :: xs, vs, h => by
    unfold Dats at h
    obtain ⟨v, r, rfl, _, h3⟩ := h
    simp only [List.length_cons, h3.len]
theorem Dats.cons {x : D} {xs : List D} {v : V} {vs : List V} (h : Dat S x v) (r : Dats S xs vs) : Dats S (x :: xs) (v :: vs) := by
  unfold Dats
  exact ⟨v, vs, rfl, h, r⟩
theorem Dats.nil : Dats S [] [] := by unfold Dats; rfl
theorem Dats.app : ∀ {xs ys : List D} {vs ws : List V}, Dats S xs vs → Dats S ys ws → Dats S (xs ++ ys) (vs ++ ws)
  | [], _, _, _, h, g => by unfold Dats at h; subst h; exact g
  | x :: xs, ys, vs, ws, h, g => by
    unfold Dats at h
    obtain ⟨v, r, rfl, h2, h3⟩ := h
    exact .cons h2 (h3.app g)
theorem Dats.one {x : D} {v : V} (h : Dat S x v) : Dats S [x] [v] := .cons h .nil
theorem Dats.take : ∀ (n : Nat) {xs : List D} {vs : List V}, Dats S xs vs → Dats S (xs.take n) (vs.take n)
  | 0, xs, vs, _ => by simp; exact .nil
  | n + 1, [], vs, h => by unfold Dats at h; subst h; simp; exact .nil
  | n + 1, x :: xs, vs, h => by
    unfold Dats at h
    obtain ⟨v, r, rfl, h2, h3⟩ := h
    simp only [List.take_succ_cons]
    exact .cons h2 (h3.take n)
theorem Dats.drop : ∀ (n : Nat) {xs : List D} {vs : List V}, Dats S xs vs → Dats S (xs.drop n) (vs.drop n)
  | 0, xs, vs, h => h
  | n + 1, [], vs, h => by unfold Dats at h; subst h; simp; exact .nil
  | n + 1, x :: xs, vs, h => by
    unfold Dats at h
    obtain ⟨v, r, rfl, h2, h3⟩ := h
    simp only [List.drop_succ_cons]
    exact h3.drop n
theorem Dats.get : ∀ {xs : List D} {vs : List V} {i : Nat} {x : D}, Dats S xs vs → xs[i]? = some x → ∃ v, vs[i]? = some v ∧ Dat S x v
  | [], _, i, x, _, e => by simp at e
  | x :: xs, vs, 0, y, h, e => by
    unfold Dats at h
    obtain ⟨v, r, rfl, h2, h3⟩ := h
    simp at e
    subst e
    exact ⟨v, rfl, h2⟩
  | x :: xs, vs, i + 1, y, h, e => by
    unfold Dats at h
    obtain ⟨v, r, rfl, h2, h3⟩ := h
    simp at e ⊢
    exact h3.get e
theorem Dats.getV : ∀ {xs : List D} {vs : List V} {i : Nat} {v : V}, Dats S xs vs → vs[i]? = some v → ∃ x, xs[i]? = some x ∧ Dat S x v
  | [], _, i, x, h, e => by unfold Dats at h; subst h; simp at e
  | x :: xs, vs, 0, y, h, e => by
    unfold Dats at h
    obtain ⟨v, r, rfl, h2, h3⟩ := h
    simp at e
    subst e
    exact ⟨x, rfl, h2⟩
  | x :: xs, vs, i + 1, y, h, e => by
    unfold Dats at h
    obtain ⟨v, r, rfl, h2, h3⟩ := h
    simp at e ⊢
    exact h3.getV e
theorem Dats.set : ∀ {xs : List D} {vs : List V} (i : Nat) {x : D} {v : V}, Dats S xs vs → Dat S x v → Dats S (xs.set i x) (vs.set i v)
  | [], _, i, x, v, h, g => by unfold Dats at h; subst h; simp; exact .nil
  | y :: xs, vs, 0, x, v, h, g => by
    unfold Dats at h
    obtain ⟨v', r, rfl, h2, h3⟩ := h
    exact .cons g h3
  | y :: xs, vs, i + 1, x, v, h, g => by
    unfold Dats at h
    obtain ⟨v', r, rfl, h2, h3⟩ := h
    exact .cons h2 (h3.set i g)
theorem Dats.dropLast {xs : List D} {vs : List V} (h : Dats S xs vs) : Dats S xs.dropLast vs.dropLast := by
  rw [List.dropLast_eq_take, List.dropLast_eq_take, h.len]
  exact h.take _
theorem Dats.rev : ∀ {xs : List D} {vs : List V}, Dats S xs vs → Dats S xs.reverse vs.reverse
  | [], _, h => by unfold Dats at h; subst h; exact .nil
  | x :: xs, vs, h => by
    unfold Dats at h
    obtain ⟨v, r, rfl, h2, h3⟩ := h
    simp only [List.reverse_cons]
    exact h3.rev.app (.one h2)
theorem Dats.rep {xs : List D} {vs : List V} (h : Dats S xs vs) : ∀ n, Dats S (List.replicate n xs).flatten (List.replicate n vs).flatten
  | 0 => .nil
  | n + 1 => by
    simp only [List.replicate_succ, List.flatten_cons]
    exact h.app (h.rep n)
theorem Dats.ins : ∀ {xs : List D} {vs : List V} (i : Nat) {x : D} {v : V}, Dats S xs vs → Dat S x v → Dats S (xs.insertIdx i x) (vs.insertIdx i v)
  | xs, vs, 0, x, v, h, g => by simp; exact .cons g h
  | [], vs, i + 1, x, v, h, g => by unfold Dats at h; subst h; simp; exact .nil
  | y :: xs, vs, i + 1, x, v, h, g => by
    unfold Dats at h
    obtain ⟨v', r, rfl, h2, h3⟩ := h
    simp only [List.insertIdx_succ_cons]
    exact .cons h2 (h3.ins i g)
theorem Dats.ints : ∀ (ns : List Int), Dats S (ns.map D.int) (ns.map V.int)
  | [] => .nil
  | n :: ns => .cons (by unfold Dat; rfl) (Dats.ints ns)
theorem Dats.ofInts : ∀ {ns : List Int} {vs : List V}, Dats S (ns.map D.int) vs → vs = ns.map V.int
  | [], vs, h => by unfold Dats at h; exact h
  | n :: ns, vs, h => by
    unfold Dats at h
    obtain ⟨v, r, rfl, h2, h3⟩ := h
    unfold Dat at h2
    subst h2
    simp only [List.map_cons, Dats.ofInts h3]
theorem Dats.ofStrs : ∀ {ns : List Str} {vs : List V}, Dats S (ns.map D.str) vs → vs = ns.map V.str
  | [], vs, h => by unfold Dats at h; exact h
  | n :: ns, vs, h => by
    unfold Dats at h
    obtain ⟨v, r, rfl, h2, h3⟩ := h
    unfold Dat at h2
    subst h2
    simp only [List.map_cons, Dats.ofStrs h3]
theorem Dats.strs : ∀ (ns : List Str), Dats S (ns.map D.str) (ns.map V.str)
  | [] => .nil
  | n :: ns => .cons (by unfold Dat; rfl) (Dats.strs ns)
theorem Dats.ofBls : ∀ {ns : List Bool} {vs : List V}, Dats S (ns.map D.bl) vs → vs = ns.map V.bl
  | [], vs, h => by unfold Dats at h; exact h
  | n :: ns, vs, h => by
    unfold Dats at h
    obtain ⟨v, r, rfl, h2, h3⟩ := h
    unfold Dat at h2
    subst h2
    simp only [List.map_cons, Dats.ofBls h3]
end

/-! ### what is owned by a slot -/
inductive Cn where
  | lst (xs : List D) | dct (ks : List Key) (xs : List D)
def Cn.d : Cn → D
  | .lst xs => .lst xs
  | .dct ks xs => .dct ks xs
def CnOk (S : Hp) : Cn → HO → Prop
  | .lst xs, o => ∃ vs, o = .lst vs ∧ Dats S xs vs
  | .dct ks xs, o => ∃ kvs, o = .dK kvs ∧ kvs.map (·.1) = ks ∧ Dats S xs (kvs.map (·.2))
theorem CnOk.mono {S T : Hp} (e : Same S T) : ∀ {c : Cn} {o : HO}, CnOk S c o → CnOk T c o
  | .lst xs, o, ⟨vs, h1, h2⟩ => ⟨vs, h1, Dats.mono e _ _ h2⟩
  | .dct ks xs, o, ⟨vs, h1, h2, h3⟩ => ⟨vs, h1, h2, Dats.mono e _ _ h3⟩
theorem CnOk.dat {S : Hp} {a : Addr} {o : HO} (h : S a = some o) : ∀ {c : Cn}, CnOk S c o → Dat S c.d (.ref a)
  | .lst xs, ⟨vs, h1, h2⟩ => by
    subst h1
    show Dat S (.lst xs) _
    unfold Dat
    exact ⟨a, vs, rfl, h, h2⟩
  | .dct ks xs, ⟨vs, h1, h2, h3⟩ => by
    subst h1
    show Dat S (.dct ks xs) _
    unfold Dat
    exact ⟨a, vs, rfl, h, h2, h3⟩

inductive Sl where
  | un | fz (d : D) | own (m : Bool) (c : Cn)
abbrev Ev := List Sl
abbrev XS := Str → Prop

/-- a def's frame: the heap and the shared data at its entry; what it may change -/
structure Fr where
  H0 : Hp
  S0 : Hp
  M : Addr → Prop

/-- the heap grows, the shared data with it -/
structure Grow (H S H' S' : Hp) : Prop where
  hh : Same H H'
  ss : Same S S'
  sh : Same S' H'
  nw : ∀ a, H a ≠ none → S' a = S a
structure FGrow (F : Fr) (H S : Hp) : Prop where
  hh : ∀ a o, ¬ F.M a → F.H0 a = some o → H a = some o
  al : ∀ a, F.H0 a ≠ none → H a ≠ none
  ss : Same F.S0 S
  sh : Same S H
  nw : ∀ a, F.H0 a ≠ none → S a = F.S0 a
section
variable {F : Fr} {H S H1 S1 H2 S2 : Hp}
theorem same_ne {H H' : Hp} (e : Same H H') {a : Addr} (h : H a ≠ none) : H' a ≠ none := by
  cases q : H a with
  | none => exact absurd q h
  | some o => rw [e a o q]; intro z; cases z
theorem Grow.refl (e : Same S H) : Grow H S H S := ⟨.refl _, .refl _, e, fun _ _ => rfl⟩
theorem Grow.trans (a : Grow H S H1 S1) (b : Grow H1 S1 H2 S2) : Grow H S H2 S2 :=
  ⟨a.hh.trans b.hh, a.ss.trans b.ss, b.sh, fun x h => (b.nw x (same_ne a.hh h)).trans (a.nw x h)⟩
theorem FGrow.grow (f : FGrow F H S) (g : Grow H S H1 S1) : FGrow F H1 S1 :=
  ⟨fun a o m h => g.hh a o (f.hh a o m h), fun a h => same_ne g.hh (f.al a h), f.ss.trans g.ss, g.sh, fun a h => (g.nw a (f.al a h)).trans (f.nw a h)⟩
theorem same_upd {p : Addr} {o : HO} (h : H p = none) : Same H (upd H p o) := fun b x e => by
  rw [upd_ne (ne_of_none e h)]
  exact e
theorem same_upd2 {p : Addr} {o : HO} (e : Same S H) (h : H p = some o) : Same (upd S p o) H := fun b x q => by
  by_cases z : b = p
  · subst z
    rw [upd_same] at q
    rw [h]
    exact q
  · rw [upd_ne z] at q
    exact e b x q
/-- a new thing is laid, not shared -/
theorem Grow.lay {p : Addr} {o : HO} (g : Grow H S H1 S1) (h : H1 p = none) : Grow H S (upd H1 p o) S1 :=
  ⟨g.hh.trans (same_upd h), g.ss, g.sh.trans (same_upd h), g.nw⟩
/-- a new thing is shared -/
theorem Grow.share {p : Addr} {o : HO} (g : Grow H S H1 S1) (h : H p = none) (h1 : S1 p = none) (h2 : H1 p = some o) : Grow H S H1 (upd S1 p o) :=
  ⟨g.hh, g.ss.trans (same_upd h1), same_upd2 g.sh h2, fun a ha => by
    rw [upd_ne (fun z => ha (by rw [z]; exact h))]
    exact g.nw a ha⟩
theorem Grow.freeS (g : Grow H S H1 S1) {p : Addr} (h : H1 p = none) : S1 p = none := g.sh.free h
theorem Grow.freeH (g : Grow H S H1 S1) {p : Addr} (h : H1 p = none) : H p = none := g.hh.free h
end

/-- what stands at a slot -/
def SlOk (F : Fr) (H S : Hp) : Sl → Option (Option V) → Prop
  | .un, _ => True
  | .fz d, x => ∃ v, x = some (some v) ∧ Dat S d v
  | .own m c, x => ∃ p o, x = some (some (.ref p)) ∧ S p = none ∧ H p = some o ∧ CnOk S c o ∧ (m = true → F.M p) ∧ (m = false → F.H0 p = none)
structure Rep (F : Fr) (ρ : Ev) (σ : St) (H S : Hp) : Prop where
  fg : FGrow F H S
  len : σ.length = ρ.length
  at' : ∀ (i : Nat) (sl : Sl), ρ[i]? = some sl → SlOk F H S sl σ[i]?
  dist : ∀ (i j : Nat) (m m' : Bool) (c c' : Cn), i ≠ j → ρ[i]? = some (.own m c) → ρ[j]? = some (.own m' c') → σ[i]? ≠ σ[j]?
section
variable {F : Fr} {ρ : Ev} {σ : St} {H S H1 S1 : Hp}
theorem Rep.sh (r : Rep F ρ σ H S) : Same S H := r.fg.sh
theorem SlOk.grow (g : Grow H S H1 S1) : ∀ {sl : Sl} {x : Option (Option V)}, SlOk F H S sl x → SlOk F H1 S1 sl x
  | .un, _, _ => trivial
  | .fz d, _, ⟨v, e, h⟩ => ⟨v, e, Dat.mono g.ss d v h⟩
  | .own m c, _, ⟨p, o, e, h1, h2, h3, h4⟩ => ⟨p, o, e, by rw [g.nw p (by rw [h2]; intro z; cases z)]; exact h1, g.hh _ _ h2, h3.mono g.ss, h4⟩
theorem Rep.grow (r : Rep F ρ σ H S) (g : Grow H S H1 S1) : Rep F ρ σ H1 S1 :=
  ⟨r.fg.grow g, r.len, fun i sl h => (r.at' i sl h).grow g, r.dist⟩
theorem Rep.fz {i : Nat} {d : D} (r : Rep F ρ σ H S) (h : ρ[i]? = some (.fz d)) : ∃ v, σ[i]? = some (some v) ∧ Dat S d v := r.at' i _ h
theorem Rep.own {i : Nat} {m : Bool} {c : Cn} (r : Rep F ρ σ H S) (h : ρ[i]? = some (.own m c)) :
    ∃ p o, σ[i]? = some (some (.ref p)) ∧ S p = none ∧ H p = some o ∧ CnOk S c o ∧ (m = true → F.M p) ∧ (m = false → F.H0 p = none) := r.at' i _ h
/-- a slot is set to shared data -/
theorem Rep.set {i : Nat} {d : D} {v : V} (r : Rep F ρ σ H S) (h : Dat S d v) : Rep F (ρ.set i (.fz d)) (σ.set i (some v)) H S := by
  refine ⟨r.fg, by simp [r.len], fun j sl e => ?_, fun j k m m' c c' n e1 e2 => ?_⟩
  · by_cases z : i = j
    · subst z
      by_cases hl : i < ρ.length
      · rw [List.getElem?_set_self hl] at e
        cases e
        exact ⟨v, by rw [List.getElem?_set_self (by rw [r.len]; exact hl)], h⟩
      · rw [List.getElem?_eq_none (by simpa using hl)] at e
        cases e
    · rw [List.getElem?_set_ne z] at e ⊢
      exact r.at' j sl e
  · have z1 : i ≠ j := fun z => by
      subst z
      rw [List.getElem?_set] at e1
      simp at e1
    have z2 : i ≠ k := fun z => by
      subst z
      rw [List.getElem?_set] at e2
      simp at e2
    rw [List.getElem?_set_ne z1] at e1 ⊢
    rw [List.getElem?_set_ne z2] at e2 ⊢
    exact r.dist j k m m' c c' n e1 e2
/-- a slot is set to a new thing of its own -/
theorem Rep.setOwn {i : Nat} {c : Cn} {p : Addr} {o : HO} (r : Rep F ρ σ H S) (hS : S p = none) (hH : H p = some o) (hc : CnOk S c o) (h0 : F.H0 p = none)
    (hd : ∀ (j : Nat) (m : Bool) (c' : Cn), ρ[j]? = some (.own m c') → σ[j]? ≠ some (some (.ref p))) : Rep F (ρ.set i (.own false c)) (σ.set i (some (.ref p))) H S := by
  refine ⟨r.fg, by simp [r.len], fun j sl e => ?_, fun j k m m' c1 c2 n e1 e2 => ?_⟩
  · by_cases z : i = j
    · subst z
      by_cases hl : i < ρ.length
      · rw [List.getElem?_set_self hl] at e
        cases e
        exact ⟨p, o, by rw [List.getElem?_set_self (by rw [r.len]; exact hl)], hS, hH, hc, fun z => (by cases z), fun _ => h0⟩
      · rw [List.getElem?_eq_none (by simpa using hl)] at e
        cases e
    · rw [List.getElem?_set_ne z] at e ⊢
      exact r.at' j sl e
  · by_cases z1 : i = j
    · have z2 : i ≠ k := fun z => n (z1.symm.trans z)
      subst z1
      rw [List.getElem?_set_ne z2] at e2 ⊢
      by_cases hl : i < ρ.length
      · rw [List.getElem?_set_self (by rw [r.len]; exact hl)]
        exact fun z => hd k m' c2 e2 z.symm
      · rw [List.getElem?_eq_none (by simpa using hl)] at e1
        cases e1
    · rw [List.getElem?_set_ne z1] at e1 ⊢
      by_cases z2 : i = k
      · subst z2
        by_cases hl : i < ρ.length
        · rw [List.getElem?_set_self (by rw [r.len]; exact hl)]
          exact hd j m c1 e1
        · rw [List.getElem?_eq_none (by simpa using hl)] at e2
          cases e2
      · rw [List.getElem?_set_ne z2] at e2 ⊢
        exact r.dist j k m m' c1 c2 n e1 e2
/-- an owned thing is changed -/
theorem Rep.put {i : Nat} {m : Bool} {c c' : Cn} {p : Addr} {o' : HO} (r : Rep F ρ σ H S) (h : ρ[i]? = some (.own m c)) (hp : σ[i]? = some (some (.ref p))) (hc : CnOk S c' o') :
    Rep F (ρ.set i (.own m c')) σ (upd H p o') S := by
  obtain ⟨p', o1, e1, e2, e3, e4, e5, e6⟩ := r.own h
  have : p' = p := by
    rw [e1] at hp
    cases hp
    rfl
  subst this
  have hl : i < ρ.length := by
    rcases Nat.lt_or_ge i ρ.length with q | q
    · exact q
    · rw [List.getElem?_eq_none q] at h
      cases h
  refine ⟨⟨fun a u hm ha => ?_, fun a ha => ?_, r.fg.ss, fun a u ha => ?_, r.fg.nw⟩, by simp [r.len], fun j sl e => ?_, fun j k m1 m2 c1 c2 n q1 q2 => ?_⟩
  · have ne : a ≠ p' := fun z => by
      subst z
      cases m with
      | true => exact hm (e5 rfl)
      | false => rw [e6 rfl] at ha; cases ha
    rw [upd_ne ne]
    exact r.fg.hh a u hm ha
  · by_cases z : a = p'
    · subst z
      rw [upd_same]
      intro z
      cases z
    · rw [upd_ne z]
      exact r.fg.al a ha
  · rw [upd_ne (fun z => by rw [z, e2] at ha; cases ha)]
    exact r.fg.sh a u ha
  · by_cases z : i = j
    · subst z
      rw [List.getElem?_set_self hl] at e
      cases e
      exact ⟨p', o', hp, e2, upd_same, hc, e5, e6⟩
    · rw [List.getElem?_set_ne z] at e
      have q := r.at' j sl e
      cases sl with
      | un => trivial
      | fz d => exact q
      | own m3 c3 =>
        obtain ⟨p3, o3, f1, f2, f3, f4, f5⟩ := q
        refine ⟨p3, o3, f1, f2, ?_, f4, f5⟩
        rw [upd_ne (fun z3 => r.dist i j m m3 c c3 z h e (by rw [hp, f1, z3]))]
        exact f3
  · have conv : ∀ (l : Nat) (m4 : Bool) (c4 : Cn), (ρ.set i (.own m c'))[l]? = some (.own m4 c4) → ∃ m5 c5, ρ[l]? = some (.own m5 c5) := fun l m4 c4 q => by
      by_cases z : i = l
      · subst z
        exact ⟨m, c, h⟩
      · rw [List.getElem?_set_ne z] at q
        exact ⟨_, _, q⟩
    obtain ⟨_, _, w1⟩ := conv _ _ _ q1
    obtain ⟨_, _, w2⟩ := conv _ _ _ q2
    exact r.dist j k _ _ _ _ n w1 w2
/-- an owned thing is shared from here on -/
theorem Rep.frz {i : Nat} {c : Cn} (r : Rep F ρ σ H S) (h : ρ[i]? = some (.own false c)) : ∃ S', Rep F (ρ.set i (.fz c.d)) σ H S' := by
  obtain ⟨p, o, e1, e2, e3, e4, _, e6⟩ := r.own h
  have h0 := e6 rfl
  have hl : i < ρ.length := by
    rcases Nat.lt_or_ge i ρ.length with q | q
    · exact q
    · rw [List.getElem?_eq_none q] at h
      cases h
  have ss : Same S (upd S p o) := same_upd e2
  refine ⟨upd S p o, ⟨r.fg.hh, r.fg.al, r.fg.ss.trans ss, same_upd2 r.fg.sh e3, fun a ha => ?_⟩, by simp [r.len], fun j sl e => ?_, fun j k m1 m2 c1 c2 n q1 q2 => ?_⟩
  · rw [upd_ne (fun z => ha (by rw [z]; exact h0))]
    exact r.fg.nw a ha
  · by_cases z : i = j
    · subst z
      rw [List.getElem?_set_self hl] at e
      cases e
      exact ⟨.ref p, e1, CnOk.dat upd_same (e4.mono ss)⟩
    · rw [List.getElem?_set_ne z] at e
      have q := r.at' j sl e
      cases sl with
      | un => trivial
      | fz d =>
        obtain ⟨v, f1, f2⟩ := q
        exact ⟨v, f1, Dat.mono ss d v f2⟩
      | own m3 c3 =>
        obtain ⟨p3, o3, f1, f2, f3, f4, f5⟩ := q
        refine ⟨p3, o3, f1, ?_, f3, f4.mono ss, f5⟩
        rw [upd_ne (fun z3 => r.dist i j false m3 c c3 z h e (by rw [e1, f1, z3]))]
        exact f2
  · have conv : ∀ (l : Nat) (m4 : Bool) (c4 : Cn), (ρ.set i (.fz c.d))[l]? = some (.own m4 c4) → ρ[l]? = some (.own m4 c4) := fun l m4 c4 q => by
      by_cases z : i = l
      · subst z
        rw [List.getElem?_set_self hl] at q
        cases q
      · rw [List.getElem?_set_ne z] at q
        exact q
    exact r.dist j k _ _ _ _ n (conv _ _ _ q1) (conv _ _ _ q2)
theorem Rep.unset {i : Nat} {x : Option V} (r : Rep F ρ σ H S) : Rep F (ρ.set i .un) (σ.set i x) H S := by
  refine ⟨r.fg, by simp [r.len], fun j sl e => ?_, fun j k m m' c c' n e1 e2 => ?_⟩
  · by_cases z : i = j
    · subst z
      by_cases hl : i < ρ.length
      · rw [List.getElem?_set_self hl] at e
        cases e
        trivial
      · rw [List.getElem?_eq_none (by simpa using hl)] at e
        cases e
    · rw [List.getElem?_set_ne z] at e ⊢
      exact r.at' j sl e
  · have z1 : i ≠ j := fun z => by
      subst z
      rw [List.getElem?_set] at e1
      simp at e1
    have z2 : i ≠ k := fun z => by
      subst z
      rw [List.getElem?_set] at e2
      simp at e2
    rw [List.getElem?_set_ne z1] at e1 ⊢
    rw [List.getElem?_set_ne z2] at e2 ⊢
    exact r.dist j k m m' c c' n e1 e2
end
end NL

namespace NL
open PySem PySem.Spec L2
open PyProof.Rows hiding St

/-- simp leaves alone what a mark speaks of -/
structure Tg {α : Sort u} (a : α) : Type where
/-- one of two ways -/
def Br (b : Bool) (A B : Prop) (_ : Tg A) (_ : Tg B) : Prop := match b with
  | true => A
  | false => B
theorem Br_true {A B : Prop} {s : Tg A} {t : Tg B} : Br true A B s t = A := rfl
theorem Br_false {A B : Prop} {s : Tg A} {t : Tg B} : Br false A B s t = B := rfl
theorem Br_not {b : Bool} {A B : Prop} {s : Tg A} {t : Tg B} : Br (!b) A B s t = Br b B A t s := by cases b <;> rfl
theorem Br.i {b : Bool} {A B : Prop} {s : Tg A} {t : Tg B} (h1 : b = true → A) (h2 : b = false → B) : Br b A B s t := by
  cases b with
  | true => exact h1 rfl
  | false => exact h2 rfl
theorem Br.d {p : Prop} [Decidable p] {A B : Prop} {s : Tg A} {t : Tg B} (h1 : p → A) (h2 : ¬ p → B) : Br (decide p) A B s t :=
  .i (fun h => h1 (of_decide_eq_true h)) fun h => h2 (of_decide_eq_false h)
theorem Br.t {p : Prop} [Decidable p] {A B : Prop} {s : Tg A} {t : Tg B} (h : p) (h1 : A) : Br (decide p) A B s t := .d (fun _ => h1) fun z => absurd h z
theorem Br.f {p : Prop} [Decidable p] {A B : Prop} {s : Tg A} {t : Tg B} (h : ¬ p) (h1 : B) : Br (decide p) A B s t := .d (fun z => absurd z h) fun _ => h1
variable [KC]
/-! ### what an exception is wished for -/
structure XOk (X : Cx) (E : XK) : Prop where
  pass : Passes (L2.CX X.prog X.w) X E
  take : Takes X (fun cls d _ H => E cls d H)
  own : PassesOwn (model X.prog X.w) X.A X.env X.xe
theorem xkb {X : Cx} {s : Shared} {H : Hp} {sc : Scope} {cenv : Env} {fp : List Addr} : XOk (X.blk s H sc cenv fp) E0 := ⟨passL, takes0, PassesOwn.never⟩
def ExOk (mg : Str → Option Value) (E : XK) (x : XS) (H S : Hp) : Prop := ∀ n C H' S', x n → mg n = some (.ref C) → Grow H S H' S' → E (.ref C) none H'
theorem ExOk.grow {mg : Str → Option Value} {E : XK} {x : XS} {H S H1 S1 : Hp} (h : ExOk mg E x H S) (g : Grow H S H1 S1) : ExOk mg E x H1 S1 :=
  fun n C H' S' a b c => h n C H' S' a b (g.trans c)

/-! ### data that is read: the thing itself may be owned by a slot -/
def BDat (H S : Hp) : D → V → Prop
  | .lst xs, v => ∃ a vs, v = .ref a ∧ H a = some (.lst vs) ∧ Dats S xs vs
  | .dct ks xs, v => ∃ a kvs, v = .ref a ∧ H a = some (.dK kvs) ∧ kvs.map (·.1) = ks ∧ Dats S xs (kvs.map (·.2))
  | d, v => Dat S d v
section
variable {H S H1 S1 : Hp}
theorem BDat.of (sh : Same S H) : ∀ {d : D} {v : V}, Dat S d v → BDat H S d v
  | .lst xs, v, h => by
    unfold Dat at h
    obtain ⟨a, vs, e, r, q⟩ := h
    exact ⟨a, vs, e, sh _ _ r, q⟩
  | .dct ks xs, v, h => by
    unfold Dat at h
    obtain ⟨a, vs, e, r, q, z⟩ := h
    exact ⟨a, vs, e, sh _ _ r, q, z⟩
  | .non, _, h => h
  | .bl _, _, h => h
  | .int _, _, h => h
  | .str _, _, h => h
  | .ref _, _, h => h
  | .scr _, _, h => h
  | .tup _, _, h => h
theorem BDat.full (sh : Same S H) : ∀ {d : D} {v : V}, BDat H S d v → Dat H d v
  | .lst xs, v, ⟨a, vs, e, r, q⟩ => by
    unfold Dat
    exact ⟨a, vs, e, r, Dats.mono sh _ _ q⟩
  | .dct ks xs, v, ⟨a, vs, e, r, q, z⟩ => by
    unfold Dat
    exact ⟨a, vs, e, r, q, Dats.mono sh _ _ z⟩
  | .non, _, h => h
  | .bl _, _, h => h
  | .int _, _, h => h
  | .str _, _, h => h
  | .ref _, _, h => h
  | .scr ns, v, h => Dat.mono sh (.scr ns) v h
  | .tup xs, v, h => Dat.mono sh (.tup xs) v h
theorem BDat.grow (g : Grow H S H1 S1) : ∀ {d : D} {v : V}, BDat H S d v → BDat H1 S1 d v
  | .lst xs, v, ⟨a, vs, e, r, q⟩ => ⟨a, vs, e, g.hh _ _ r, Dats.mono g.ss _ _ q⟩
  | .dct ks xs, v, ⟨a, vs, e, r, q, z⟩ => ⟨a, vs, e, g.hh _ _ r, q, Dats.mono g.ss _ _ z⟩
  | .non, _, h => h
  | .bl _, _, h => h
  | .int _, _, h => h
  | .str _, _, h => h
  | .ref _, _, h => h
  | .scr ns, v, h => Dat.mono g.ss (.scr ns) v h
  | .tup xs, v, h => Dat.mono g.ss (.tup xs) v h
end

abbrev WE := XS → Ev → (D → Prop) → Prop
abbrev WL := XS → Ev → (List D → Prop) → Prop
abbrev WT := XS → Ev → (Bool → Prop) → Prop

/-- an expression that tells shared data -/
structure ED (X : Cx) (E : XK) (e : Expr) (w : WE) : Prop where
  ex : ∃ t, PE X e t ∧ ∀ (x : XS) (ρ : Ev) (Q : D → Prop), w x ρ Q → ∀ (F : Fr) (σ : L2.St) (H S : Hp) (Q' : VK), Rep F ρ σ H S → ExOk X.mg E x H S →
    (∀ d v H' S', Q d → Grow H S H' S' → Dat S' d v → Q' v H') → t σ H Q'
/-- .. data to be read -/
structure BD (X : Cx) (E : XK) (e : Expr) (w : WE) : Prop where
  ex : ∃ t, PE X e t ∧ ∀ (x : XS) (ρ : Ev) (Q : D → Prop), w x ρ Q → ∀ (F : Fr) (σ : L2.St) (H S : Hp) (Q' : VK), Rep F ρ σ H S → ExOk X.mg E x H S →
    (∀ d v H' S', Q d → Grow H S H' S' → BDat H' S' d v → Q' v H') → t σ H Q'
/-- .. a new list, nobody else's -/
structure DF (X : Cx) (E : XK) (e : Expr) (w : WL) : Prop where
  ex : ∃ t, PE X e t ∧ ∀ (x : XS) (ρ : Ev) (Q : List D → Prop), w x ρ Q → ∀ (F : Fr) (σ : L2.St) (H S : Hp) (Q' : VK), Rep F ρ σ H S → ExOk X.mg E x H S →
    (∀ xs p vs H' S', Q xs → Grow H S H' S' → H p = none → S' p = none → H' p = some (.lst vs) → Dats S' xs vs → Q' (.ref p) H') → t σ H Q'
/-- a test -/
structure TD (X : Cx) (E : XK) (e : Expr) (w : WT) : Prop where
  ex : ∃ t, PT X e t ∧ ∀ (x : XS) (ρ : Ev) (Q : Bool → Prop), w x ρ Q → ∀ (F : Fr) (σ : L2.St) (H S : Hp) (Q' : Bool → Hp → Prop), Rep F ρ σ H S → ExOk X.mg E x H S →
    (∀ b H' S', Q b → Grow H S H' S' → Q' b H') → t σ H Q'
structure WD (X : Cx) (E : XK) (e : Expr) (w : WT) : Prop where
  ex : ∃ t, PW X e t ∧ ∀ (x : XS) (ρ : Ev) (Q : Bool → Prop), w x ρ Q → ∀ (F : Fr) (σ : L2.St) (H S : Hp) (Q' : Bool → Hp → Prop), Rep F ρ σ H S → ExOk X.mg E x H S →
    (∀ b H' S', Q b → Grow H S H' S' → Q' b H') → t σ H Q'
/-- arguments, shared -/
structure AD (X : Cx) (E : XK) (es : List Expr) (w : WL) : Prop where
  ex : ∃ t, PA X es t ∧ ∀ (x : XS) (ρ : Ev) (Q : List D → Prop), w x ρ Q → ∀ (F : Fr) (σ : L2.St) (H S : Hp) (Q' : List V → Hp → Prop), Rep F ρ σ H S → ExOk X.mg E x H S →
    (∀ ds vs H' S', Q ds → Grow H S H' S' → Dats S' ds vs → Q' vs H') → t σ H Q'
/-- data read, side by side -/
def BDats (H S : Hp) : List D → List V → Prop
  | [], vs => vs = []
  | d :: ds, vs => ∃ v r, vs = v :: r ∧ BDat H S d v ∧ BDats H S ds r
theorem BDats.grow {H S H1 S1 : Hp} (g : Grow H S H1 S1) : ∀ {ds : List D} {vs : List V}, BDats H S ds vs → BDats H1 S1 ds vs
  | [], _, h => h
  | d :: ds, vs, ⟨v, r, e, h, q⟩ => ⟨v, r, e, h.grow g, BDats.grow g q⟩
theorem BDats.of {H S : Hp} (sh : Same S H) : ∀ {ds : List D} {vs : List V}, Dats S ds vs → BDats H S ds vs
  | [], _, h => by unfold Dats at h; exact h
  | d :: ds, vs, h => by
    unfold Dats at h
    obtain ⟨v, r, e, h, q⟩ := h
    exact ⟨v, r, e, BDat.of sh h, BDats.of sh q⟩
/-- arguments, read -/
structure AB (X : Cx) (E : XK) (es : List Expr) (w : WL) : Prop where
  ex : ∃ t, PA X es t ∧ ∀ (x : XS) (ρ : Ev) (Q : List D → Prop), w x ρ Q → ∀ (F : Fr) (σ : L2.St) (H S : Hp) (Q' : List V → Hp → Prop), Rep F ρ σ H S → ExOk X.mg E x H S →
    (∀ ds vs H' S', Q ds → Grow H S H' S' → BDats H' S' ds vs → Q' vs H') → t σ H Q'

section
variable {X : Cx} {E : XK} {e a b : Expr} {es : List Expr} {pos : Pos} {w wa wb : WE} {wl : WL}

/-! ### from one kind to another -/
theorem bd (h : ED X E e w) : BD X E e w := by
  obtain ⟨t, p, s⟩ := h.ex
  exact ⟨t, p, fun x ρ Q hw F σ H S Q' r ex k => s x ρ Q hw F σ H S Q' r ex fun d v H' S' q g hd => k d v H' S' q g (BDat.of g.sh hd)⟩
/-- a new list is shared at once -/
def wNew (wl : WL) : WE := fun x ρ Q => wl x ρ fun xs => Q (.lst xs)
theorem ed_new (h : DF X E e wl) : ED X E e (wNew wl) := by
  obtain ⟨t, p, s⟩ := h.ex
  refine ⟨t, p, fun x ρ Q hw F σ H S Q' r ex k => s x ρ _ hw F σ H S Q' r ex fun xs p vs H' S' q g h0 h1 h2 hd => ?_⟩
  refine k _ _ H' (upd S' p (.lst vs)) q (g.share h0 h1 h2) ?_
  unfold Dat
  exact ⟨p, vs, rfl, upd_same, Dats.mono (same_upd h1) _ _ hd⟩
theorem bd_new (h : DF X E e wl) : BD X E e (wNew wl) := bd (ed_new h)

/-! ### names and constants -/
def wVar (i : Nat) : WE := fun _ ρ Q => match ρ[i]? with
  | some (.fz d) => Q d
  | _ => False
theorem ed_var (i : Nat) {x : Str} (hN : X.N[i]? = some x := by rfl) (hv : Vis X.env.scope x := by first | exact Or.inl rfl | exact Or.inr (Or.inl rfl) | exact Or.inr (Or.inr rfl)) (hd : (x == ("__debug__" : Str)) = false := by decide)
    (hcd : (x == ("__classdict__" : Str)) = false := by decide) : ED X E (.Name x pos) (wVar i) := by
  refine ⟨_, pe_var hN hv hd hcd, fun x ρ Q hw F σ H S Q' r ex k => ?_⟩
  unfold wVar at hw
  split at hw
  · rename_i d hi
    obtain ⟨v, e, h⟩ := r.fz hi
    exact ⟨v, e, k d v H S hw (.refl r.sh) h⟩
  · exact hw.elim
/-- a slot's own thing, read -/
def wOwn (i : Nat) : WE := fun _ ρ Q => match ρ[i]? with
  | some (.own _ c) => Q c.d
  | some (.fz d) => Q d
  | _ => False
theorem bd_own (i : Nat) {x : Str} (hN : X.N[i]? = some x := by rfl) (hv : Vis X.env.scope x := by first | exact Or.inl rfl | exact Or.inr (Or.inl rfl) | exact Or.inr (Or.inr rfl)) (hd : (x == ("__debug__" : Str)) = false := by decide)
    (hcd : (x == ("__classdict__" : Str)) = false := by decide) : BD X E (.Name x pos) (wOwn i) := by
  refine ⟨_, pe_var hN hv hd hcd, fun x ρ Q hw F σ H S Q' r ex k => ?_⟩
  unfold wOwn at hw
  split at hw
  · rename_i m c hi
    obtain ⟨p, o, e, h1, h2, h3, _⟩ := r.own hi
    refine ⟨.ref p, e, k c.d _ H S hw (.refl r.sh) ?_⟩
    cases c with
    | lst xs =>
      obtain ⟨vs, rfl, q⟩ := h3
      exact ⟨p, vs, rfl, h2, q⟩
    | dct ks xs =>
      obtain ⟨vs, rfl, q, q2⟩ := h3
      exact ⟨p, vs, rfl, h2, q, q2⟩
  · rename_i d hi
    obtain ⟨v, e, h⟩ := r.fz hi
    exact ⟨v, e, k d v H S hw (.refl r.sh) (BDat.of r.sh h)⟩
  · exact hw.elim
def wC (d : D) : WE := fun _ _ Q => Q d
theorem ed_int {i j} : ED X E (.Constant (.int i) j pos) (wC (.int i)) :=
  ⟨_, pe_int, fun x ρ Q hw F σ H S Q' r ex k => k _ _ H S hw (.refl r.sh) (by unfold Dat; rfl)⟩
theorem ed_bl {i j} : ED X E (.Constant (.bool i) j pos) (wC (.bl i)) :=
  ⟨_, pe_bl, fun x ρ Q hw F σ H S Q' r ex k => k _ _ H S hw (.refl r.sh) (by unfold Dat; rfl)⟩
theorem ed_non {j} : ED X E (.Constant .none j pos) (wC .non) :=
  ⟨_, pe_non, fun x ρ Q hw F σ H S Q' r ex k => k _ _ H S hw (.refl r.sh) (by unfold Dat; rfl)⟩
theorem ed_str {i j} : ED X E (.Constant (.str i) j pos) (wC (.str i)) :=
  ⟨_, pe_str, fun x ρ Q hw F σ H S Q' r ex k => k _ _ H S hw (.refl r.sh) (by unfold Dat; rfl)⟩
/-- a constant text of the module -/
theorem ed_glob {x : Str} {u : Value} {d : D} {v : V} (hg : Gl X x) (hm : X.mg x = some u) (r : RelV v u) (hd : ∀ S, Dat S d v) (hdb : (x == ("__debug__" : Str)) = false := by decide) : ED X E (.Name x pos) (wC d) :=
  ⟨_, pe_glob hg hm r hdb, fun x ρ Q hw F σ H S Q' r ex k => k _ _ H S hw (.refl r.sh) (hd S)⟩

/-! ### operators -/
structure OpD (X : Cx) (f : Value → Value → Sem Value) (g : D → D → (D → Prop) → Prop) : Prop where
  ex : ∃ r : R2, OpR X f r ∧ ∀ (d e : D) (Q : D → Prop), g d e Q → ∀ (H S : Hp) (u v : V) (Q' : VK), Same S H → BDat H S d u → BDat H S e v → (∀ z y H' S', Q z → Grow H S H' S' → Dat S' z y → Q' y H') → r u v H Q'
def wOp (g : D → D → (D → Prop) → Prop) (wa wb : WE) : WE := fun x ρ Q => wa x ρ fun d => wb x ρ fun e => g d e Q
theorem op_sound {f : Value → Value → Sem Value} {g : D → D → (D → Prop) → Prop} (ho : OpD X f g) (ha : BD X E a wa) (hb : BD X E b wb) : ∃ r ta tb, OpR X f r ∧ PE X a ta ∧ PE X b tb ∧
    ∀ (x : XS) (ρ : Ev) (Q : D → Prop), wOp g wa wb x ρ Q → ∀ (F : Fr) (σ : L2.St) (H S : Hp) (Q' : VK), Rep F ρ σ H S → ExOk X.mg E x H S →
    (∀ d v H' S', Q d → Grow H S H' S' → Dat S' d v → Q' v H') → tOp r ta tb σ H Q' := by
  obtain ⟨r, o, so⟩ := ho.ex
  obtain ⟨ta, pa, sa⟩ := ha.ex
  obtain ⟨tb, pb, sb⟩ := hb.ex
  refine ⟨r, ta, tb, o, pa, pb, fun x ρ Q hw F σ H S Q' rp ex k => ?_⟩
  refine sa x ρ _ hw F σ H S _ rp ex fun d u H1 S1 q1 g1 h1 => ?_
  refine sb x ρ _ q1 F σ H1 S1 _ (rp.grow g1) (ex.grow g1) fun e v H2 S2 q2 g2 h2 => ?_
  exact so d e Q q2 H2 S2 u v Q' g2.sh (h1.grow g2) h2 fun z y H3 S3 q3 g3 h3 => k z y H3 S3 q3 ((g1.trans g2).trans g3) h3
theorem ed_op {op : Operator} {g : D → D → (D → Prop) → Prop} (ho : OpD X (binaryOp op) g) (ha : BD X E a wa) (hb : BD X E b wb) : ED X E (.BinOp a op b pos) (wOp g wa wb) := by
  obtain ⟨r, ta, tb, o, pa, pb, s⟩ := op_sound ho ha hb
  exact ⟨_, pe_op o pa pb, s⟩
theorem ed_cmp {op : CmpOp} {g : D → D → (D → Prop) → Prop} (ho : OpD X (compareOp op) g) (ha : BD X E a wa) (hb : BD X E b wb) (hm : behindInMarks op b = false := by first | exact nomark _ | with_unfolding_all rfl) : ED X E (.Compare a [op] [b] pos) (wOp g wa wb) := by
  obtain ⟨r, ta, tb, o, pa, pb, s⟩ := op_sound ho ha hb
  exact ⟨_, pe_cmpR o pa pb hm, s⟩
/-- the truth that a comparison tells -/
def onBl (Q : Bool → Prop) : D → Prop
  | .bl k => Q k
  | _ => False
theorem onBl_sound {Q : Bool → Prop} {d : D} {S : Hp} {v : V} (h : onBl Q d) (hd : Dat S d v) : ∃ k, v = .bl k ∧ Q k := by
  cases d with
  | bl k => unfold Dat at hd; exact ⟨k, hd, h⟩
  | _ => exact h.elim
def wtOn (w : WE) : WT := fun x ρ Q => w x ρ (onBl Q)
theorem td_cmp {op : CmpOp} {g : D → D → (D → Prop) → Prop} (ho : OpD X (compareOp op) g) (ha : BD X E a wa) (hb : BD X E b wb) (hm : behindInMarks op b = false := by first | exact nomark _ | with_unfolding_all rfl) :
    TD X E (.Compare a [op] [b] pos) (wtOn (wOp g wa wb)) := by
  obtain ⟨r, ta, tb, o, pa, pb, s⟩ := op_sound ho ha hb
  refine ⟨_, pt_cmpR o pa pb hm, fun x ρ Q hw F σ H S Q' rp ex k => ?_⟩
  refine s x ρ _ hw F σ H S _ rp ex fun d v H' S' q g hd => ?_
  obtain ⟨b, rfl, q⟩ := onBl_sound q hd
  exact ⟨b, rfl, k b H' S' q g⟩
def wChain (g g' : D → D → (D → Prop) → Prop) (wa wb wc : WE) : WE := fun x ρ Q => wa x ρ fun d => wb x ρ fun e => g d e (onBl fun k => Br k (wc x ρ fun f => g' e f Q) (Q (.bl false)) ⟨⟩ ⟨⟩)
theorem chain_sound {c : Expr} {wc : WE} {f f' : Value → Value → Sem Value} {g g' : D → D → (D → Prop) → Prop} (ho : OpD X f g) (ho' : OpD X f' g') (ha : BD X E a wa) (hb : BD X E b wb) (hc : BD X E c wc) :
    ∃ r r' ta tb tc, OpR X f r ∧ OpR X f' r' ∧ PE X a ta ∧ PE X b tb ∧ PE X c tc ∧ ∀ (x : XS) (ρ : Ev) (Q : D → Prop), wChain g g' wa wb wc x ρ Q → ∀ (F : Fr) (σ : L2.St) (H S : Hp) (Q' : VK), Rep F ρ σ H S → ExOk X.mg E x H S →
    (∀ d v H' S', Q d → Grow H S H' S' → Dat S' d v → Q' v H') → tChain r r' ta tb tc σ H Q' := by
  obtain ⟨r, o, so⟩ := ho.ex
  obtain ⟨r', o', so'⟩ := ho'.ex
  obtain ⟨ta, pa, sa⟩ := ha.ex
  obtain ⟨tb, pb, sb⟩ := hb.ex
  obtain ⟨tc, pc, sc⟩ := hc.ex
  refine ⟨r, r', ta, tb, tc, o, o', pa, pb, pc, fun x ρ Q hw F σ H S Q' rp ex k => ?_⟩
  refine sa x ρ _ hw F σ H S _ rp ex fun d u H1 S1 q1 g1 h1 => ?_
  refine sb x ρ _ q1 F σ H1 S1 _ (rp.grow g1) (ex.grow g1) fun e v H2 S2 q2 g2 h2 => ?_
  refine so d e _ q2 H2 S2 u v _ g2.sh (h1.grow g2) h2 fun z y H3 S3 q3 g3 h3 => ?_
  obtain ⟨kb, rfl, q3⟩ := onBl_sound q3 h3
  refine ⟨kb, rfl, ?_⟩
  have g13 := (g1.trans g2).trans g3
  cases kb with
  | false => exact iteF (k _ _ H3 S3 q3 g13 (by unfold Dat; rfl))
  | true =>
    refine iteT (sc x ρ _ q3 F σ H3 S3 _ (rp.grow g13) (ex.grow g13) fun z y H4 S4 q4 g4 h4 => ?_)
    exact so' e z Q q4 H4 S4 v y Q' g4.sh ((h2.grow g3).grow g4) h4 fun z y H5 S5 q5 g5 h5 => k z y H5 S5 q5 ((g13.trans g4).trans g5) h5
theorem ed_chain {c : Expr} {wc : WE} {op op' : CmpOp} {g g' : D → D → (D → Prop) → Prop} (ho : OpD X (compareOp op) g) (ho' : OpD X (compareOp op') g') (ha : BD X E a wa) (hb : BD X E b wb) (hc : BD X E c wc)
    (hm : lastMarks [op, op'] [b, c] = false := by with_unfolding_all rfl) : ED X E (.Compare a [op, op'] [b, c] pos) (wChain g g' wa wb wc) := by
  obtain ⟨r, r', ta, tb, tc, o, o', pa, pb, pc, s⟩ := chain_sound ho ho' ha hb hc
  exact ⟨_, pe_chain o o' pa pb pc hm, s⟩
theorem td_chain {c : Expr} {wc : WE} {op op' : CmpOp} {g g' : D → D → (D → Prop) → Prop} (ho : OpD X (compareOp op) g) (ho' : OpD X (compareOp op') g') (ha : BD X E a wa) (hb : BD X E b wb) (hc : BD X E c wc)
    (hm : lastMarks [op, op'] [b, c] = false := by with_unfolding_all rfl) : TD X E (.Compare a [op, op'] [b, c] pos) (wtOn (wChain g g' wa wb wc)) := by
  obtain ⟨r, r', ta, tb, tc, o, o', pa, pb, pc, s⟩ := chain_sound ho ho' ha hb hc
  refine ⟨_, pt_chain o o' pa pb pc hm, fun x ρ Q hw F σ H S Q' rp ex k => ?_⟩
  refine s x ρ _ hw F σ H S _ rp ex fun d v H' S' q g hd => ?_
  obtain ⟨b, rfl, q⟩ := onBl_sound q hd
  exact ⟨b, rfl, k b H' S' q g⟩

/-! ### truth -/
def trD : D → (Bool → Prop) → Prop
  | .non, Q => Q false
  | .bl b, Q => Q b
  | .int i, Q => Q (i != 0)
  | .str s, Q => s.length ≤ sizeLine ∧ Q ((s.length : Int) != 0)
  | .lst xs, Q => Q (!xs.isEmpty)
  | .tup xs, Q => Q (!xs.isEmpty)
  | _, _ => False
theorem Dats.emp {S : Hp} {xs : List D} {vs : List V} (h : Dats S xs vs) : vs.isEmpty = xs.isEmpty := by
  have := h.len
  cases xs <;> cases vs <;> simp_all
theorem trD_sound {K : PySem.W.Frag} {H S : Hp} {d : D} {v : V} {Q : Bool → Prop} (sh : Same S H) (hb : BDat H S d v) (h : trD d Q) : ∃ k, TruV K v H k ∧ Q k := by
  cases d with
  | non => simp only [BDat, Dat] at hb; subst hb; exact ⟨_, rfl, h⟩
  | bl b => simp only [BDat, Dat] at hb; subst hb; exact ⟨_, rfl, h⟩
  | int i => simp only [BDat, Dat] at hb; subst hb; exact ⟨_, rfl, h⟩
  | str s => simp only [BDat, Dat] at hb; subst hb; exact ⟨_, ⟨h.1, rfl⟩, h.2⟩
  | lst xs =>
    obtain ⟨a, vs, rfl, r, q⟩ := hb
    exact ⟨_, .inl ⟨vs, .of r, rfl⟩, by rw [q.emp]; exact h⟩
  | tup xs =>
    simp only [BDat, Dat] at hb
    obtain ⟨a, vs, rfl, r, q⟩ := hb
    exact ⟨_, .inr (.inl ⟨vs, .of (sh _ _ r), rfl⟩), by rw [q.emp]; exact h⟩
  | dct _ _ => exact h.elim
  | ref _ => exact h.elim
  | scr _ => exact h.elim
def wtVal (wa : WE) : WT := fun x ρ Q => wa x ρ fun d => trD d Q
theorem td_val (ha : BD X E a wa) (he : ∀ whole, isTrue a X.env whole = (do let v ← whole; standAt a.pos; holding [v] (truthy v)) := by intro _; rfl) : TD X E a (wtVal wa) := by
  obtain ⟨ta, pa, sa⟩ := ha.ex
  refine ⟨_, pt_truth pa he, fun x ρ Q hw F σ H S Q' rp ex k => ?_⟩
  refine sa x ρ _ hw F σ H S _ rp ex fun d u H1 S1 q1 g1 h1 => ?_
  obtain ⟨kb, e, q⟩ := trD_sound g1.sh h1 q1
  exact ⟨kb, e, k kb H1 S1 q g1⟩
variable {wt wu : WT} {rest : List Expr}
def wtNot (wt : WT) : WT := fun x ρ Q => wt x ρ fun b => Q (!b)
theorem td_not (ha : TD X E a wt) : TD X E (.UnaryOp .Not a pos) (wtNot wt) := by
  obtain ⟨t, p, s⟩ := ha.ex
  exact ⟨_, pt_not p, fun x ρ Q hw F σ H S Q' rp ex k => s x ρ _ hw F σ H S _ rp ex fun b H' S' q g => k _ H' S' q g⟩
def wAnd (wt wu : WT) : WT := fun x ρ Q => wt x ρ fun b => Br b (wu x ρ Q) (Q false) ⟨⟩ ⟨⟩
def wOr (wt wu : WT) : WT := fun x ρ Q => wt x ρ fun b => Br b (Q true) (wu x ρ Q) ⟨⟩ ⟨⟩
theorem wd_and1 (ha : TD X E a wt) : WD X E (.BoolOp .And [a] pos) wt := by
  obtain ⟨t, p, s⟩ := ha.ex
  exact ⟨_, pw_and1 p, s⟩
theorem wd_or1 (ha : TD X E a wt) : WD X E (.BoolOp .Or [a] pos) wt := by
  obtain ⟨t, p, s⟩ := ha.ex
  exact ⟨_, pw_or1 p, s⟩
theorem wd_and (ha : TD X E a wt) (hb : WD X E (.BoolOp .And (b :: rest) pos) wu) : WD X E (.BoolOp .And (a :: b :: rest) pos) (wAnd wt wu) := by
  obtain ⟨t, p, s⟩ := ha.ex
  obtain ⟨t', p', s'⟩ := hb.ex
  refine ⟨_, pw_and p p', fun x ρ Q hw F σ H S Q' rp ex k => ?_⟩
  refine s x ρ _ hw F σ H S _ rp ex fun b H1 S1 q1 g1 => ?_
  cases b with
  | true => exact iteT (s' x ρ _ q1 F σ H1 S1 _ (rp.grow g1) (ex.grow g1) fun b H2 S2 q2 g2 => k b H2 S2 q2 (g1.trans g2))
  | false => exact iteF (k _ H1 S1 q1 g1)
theorem wd_or (ha : TD X E a wt) (hb : WD X E (.BoolOp .Or (b :: rest) pos) wu) : WD X E (.BoolOp .Or (a :: b :: rest) pos) (wOr wt wu) := by
  obtain ⟨t, p, s⟩ := ha.ex
  obtain ⟨t', p', s'⟩ := hb.ex
  refine ⟨_, pw_or p p', fun x ρ Q hw F σ H S Q' rp ex k => ?_⟩
  refine s x ρ _ hw F σ H S _ rp ex fun b H1 S1 q1 g1 => ?_
  cases b with
  | true => exact iteT (k _ H1 S1 q1 g1)
  | false => exact iteF (s' x ρ _ q1 F σ H1 S1 _ (rp.grow g1) (ex.grow g1) fun b H2 S2 q2 g2 => k b H2 S2 q2 (g1.trans g2))
theorem td_w (h : WD X E e wt) : TD X E e wt := by
  obtain ⟨t, p, s⟩ := h.ex
  exact ⟨_, p.pt, s⟩
/-! .. as values -/
theorem ed_one {op} (h : ED X E a wa) : ED X E (.BoolOp op [a] pos) wa := by
  obtain ⟨t, p, s⟩ := h.ex
  exact ⟨_, pe_one p, s⟩
def wAndV (wa wb : WE) : WE := fun x ρ Q => wa x ρ fun d => trD d fun k => Br k (wb x ρ Q) (Q d) ⟨⟩ ⟨⟩
def wOrV (wa wb : WE) : WE := fun x ρ Q => wa x ρ fun d => trD d fun k => Br k (Q d) (wb x ρ Q) ⟨⟩ ⟨⟩
theorem ed_and (ha : ED X E a wa) (hb : ED X E (.BoolOp .And (b :: rest) pos) wb) : ED X E (.BoolOp .And (a :: b :: rest) pos) (wAndV wa wb) := by
  obtain ⟨t, p, s⟩ := ha.ex
  obtain ⟨t', p', s'⟩ := hb.ex
  refine ⟨_, pe_andT p p', fun x ρ Q hw F σ H S Q' rp ex k => ?_⟩
  refine s x ρ _ hw F σ H S _ rp ex fun d u H1 S1 q1 g1 h1 => ?_
  obtain ⟨kb, e, q⟩ := trD_sound (K := X.K) g1.sh (BDat.of g1.sh h1) q1
  refine ⟨kb, e, ?_⟩
  cases kb with
  | true => exact iteT (s' x ρ _ q F σ H1 S1 _ (rp.grow g1) (ex.grow g1) fun d v H2 S2 q2 g2 h2 => k d v H2 S2 q2 (g1.trans g2) h2)
  | false => exact iteF (k _ _ H1 S1 q g1 h1)
theorem ed_or (ha : ED X E a wa) (hb : ED X E (.BoolOp .Or (b :: rest) pos) wb) : ED X E (.BoolOp .Or (a :: b :: rest) pos) (wOrV wa wb) := by
  obtain ⟨t, p, s⟩ := ha.ex
  obtain ⟨t', p', s'⟩ := hb.ex
  refine ⟨_, pe_orT p p', fun x ρ Q hw F σ H S Q' rp ex k => ?_⟩
  refine s x ρ _ hw F σ H S _ rp ex fun d u H1 S1 q1 g1 h1 => ?_
  obtain ⟨kb, e, q⟩ := trD_sound (K := X.K) g1.sh (BDat.of g1.sh h1) q1
  refine ⟨kb, e, ?_⟩
  cases kb with
  | true => exact iteT (k _ _ H1 S1 q g1 h1)
  | false => exact iteF (s' x ρ _ q F σ H1 S1 _ (rp.grow g1) (ex.grow g1) fun d v H2 S2 q2 g2 h2 => k d v H2 S2 q2 (g1.trans g2) h2)
def wNotV (wa : WE) : WE := fun x ρ Q => wa x ρ fun d => trD d fun k => Q (.bl (!k))
theorem ed_not (ha : BD X E a wa) : ED X E (.UnaryOp .Not a pos) (wNotV wa) := by
  obtain ⟨t, p, s⟩ := ha.ex
  refine ⟨_, pe_notT p, fun x ρ Q hw F σ H S Q' rp ex k => ?_⟩
  refine s x ρ _ hw F σ H S _ rp ex fun d u H1 S1 q1 g1 h1 => ?_
  obtain ⟨kb, e, q⟩ := trD_sound (K := X.K) g1.sh h1 q1
  exact ⟨kb, e, k _ _ H1 S1 q g1 (by unfold Dat; rfl)⟩
def wIf (wt : WT) (wa wb : WE) : WE := fun x ρ Q => wt x ρ fun b => Br b (wa x ρ Q) (wb x ρ Q) ⟨⟩ ⟨⟩
theorem ed_ifexp {c : Expr} (hc : TD X E c wt) (ha : ED X E a wa) (hb : ED X E b wb) : ED X E (.IfExp c a b pos) (wIf wt wa wb) := by
  obtain ⟨t, p, s⟩ := hc.ex
  obtain ⟨ta, pa, sa⟩ := ha.ex
  obtain ⟨tb, pb, sb⟩ := hb.ex
  refine ⟨_, pe_ifExp p pa pb, fun x ρ Q hw F σ H S Q' rp ex k => ?_⟩
  refine s x ρ _ hw F σ H S _ rp ex fun b H1 S1 q1 g1 => ?_
  cases b with
  | true => exact iteT (sa x ρ _ q1 F σ H1 S1 _ (rp.grow g1) (ex.grow g1) fun d v H2 S2 q2 g2 h2 => k d v H2 S2 q2 (g1.trans g2) h2)
  | false => exact iteF (sb x ρ _ q1 F σ H1 S1 _ (rp.grow g1) (ex.grow g1) fun d v H2 S2 q2 g2 h2 => k d v H2 S2 q2 (g1.trans g2) h2)

/-! ### arguments, displays -/
def wNil : WL := fun _ _ Q => Q []
theorem ad_nil : AD X E [] wNil := ⟨_, pa_nil, fun x ρ Q hw F σ H S Q' rp ex k => k [] [] H S hw (.refl rp.sh) .nil⟩
def wCons (wa : WE) (wl : WL) : WL := fun x ρ Q => wa x ρ fun d => wl x ρ fun ds => Q (d :: ds)
theorem ad_cons (ha : ED X E a wa) (hr : AD X E es wl) (hs : starEach (a :: es) X.env = (false, eval a X.env) :: starEach es X.env := by rfl) : AD X E (a :: es) (wCons wa wl) := by
  obtain ⟨t, p, s⟩ := ha.ex
  obtain ⟨t', p', s'⟩ := hr.ex
  refine ⟨_, pa_cons p p' hs, fun x ρ Q hw F σ H S Q' rp ex k => ?_⟩
  refine s x ρ _ hw F σ H S _ rp ex fun d u H1 S1 q1 g1 h1 => ?_
  refine s' x ρ _ q1 F σ H1 S1 _ (rp.grow g1) (ex.grow g1) fun ds vs H2 S2 q2 g2 h2 => ?_
  exact k _ _ H2 S2 q2 (g1.trans g2) (.cons (Dat.mono g2.ss _ _ h1) h2)
theorem ab_nil : AB X E [] wNil := ⟨_, pa_nil, fun x ρ Q hw F σ H S Q' rp ex k => k [] [] H S hw (.refl rp.sh) rfl⟩
theorem ab_cons (ha : BD X E a wa) (hr : AB X E es wl) (hs : starEach (a :: es) X.env = (false, eval a X.env) :: starEach es X.env := by rfl) : AB X E (a :: es) (wCons wa wl) := by
  obtain ⟨t, p, s⟩ := ha.ex
  obtain ⟨t', p', s'⟩ := hr.ex
  refine ⟨_, pa_cons p p' hs, fun x ρ Q hw F σ H S Q' rp ex k => ?_⟩
  refine s x ρ _ hw F σ H S _ rp ex fun d u H1 S1 q1 g1 h1 => ?_
  refine s' x ρ _ q1 F σ H1 S1 _ (rp.grow g1) (ex.grow g1) fun ds vs H2 S2 q2 g2 h2 => ?_
  exact k _ _ H2 S2 q2 (g1.trans g2) ⟨_, _, rfl, h1.grow g2, h2⟩
def wTup (wl : WL) : WE := fun x ρ Q => wl x ρ fun ds => ds.length ≤ sizeLine ∧ Q (.tup ds)
def wLst (wl : WL) : WL := fun x ρ Q => wl x ρ fun ds => ds.length ≤ sizeLine ∧ Q ds
theorem ed_tup {k1} (h : AD X E es wl) : ED X E (.Tuple es k1 pos) (wTup wl) := by
  obtain ⟨t, p, s⟩ := h.ex
  refine ⟨_, pe_tup p, fun x ρ Q hw F σ H S Q' rp ex k => ?_⟩
  refine s x ρ _ hw F σ H S _ rp ex fun ds vs H1 S1 q1 g1 h1 => ⟨by rw [h1.len]; exact q1.1, fun p hp => ?_⟩
  have h0 := g1.freeS hp
  refine k _ _ _ (upd S1 p (.tup vs)) q1.2 ((g1.lay hp).share (g1.freeH hp) h0 upd_same) ?_
  unfold Dat
  exact ⟨p, vs, rfl, upd_same, Dats.mono (same_upd h0) _ _ h1⟩
theorem df_lst (h : AD X E es wl) : DF X E (.List es pos) (wLst wl) := by
  obtain ⟨t, p, s⟩ := h.ex
  refine ⟨_, pe_lst p, fun x ρ Q hw F σ H S Q' rp ex k => ?_⟩
  refine s x ρ _ hw F σ H S _ rp ex fun ds vs H1 S1 q1 g1 h1 => ⟨by rw [h1.len]; exact q1.1, fun p hp => ?_⟩
  exact k _ _ _ _ S1 q1.2 (g1.lay hp) (g1.freeH hp) (g1.freeS hp) upd_same h1
def wUn (f : Int → Int) (wa : WE) : WE := fun x ρ Q => wa x ρ fun d => match d with
  | .int i => Q (.int (f i))
  | _ => False
theorem ed_un {op : UnaryOp} {f : Int → Int} (ho : UnR X (unaryOp op) (rU fun i => .int (f i))) (ha : ED X E a wa) : ED X E (.UnaryOp op a pos) (wUn f wa) := by
  obtain ⟨t, p, s⟩ := ha.ex
  refine ⟨_, pe_un ho p, fun x ρ Q hw F σ H S Q' rp ex k => ?_⟩
  refine s x ρ _ hw F σ H S _ rp ex fun d u H1 S1 q1 g1 h1 => ?_
  cases d with
  | int i =>
    unfold Dat at h1
    exact ⟨i, h1, k _ _ H1 S1 q1 g1 (by unfold Dat; rfl)⟩
  | _ => exact q1.elim
end
end NL

namespace NL
open PySem PySem.Spec L2
open PyProof.Rows hiding St
variable [KC]

/-! ### the operators by data -/
theorem Dat.i {S : Hp} {i : Int} : Dat S (.int i) (.int i) := by unfold Dat; rfl
theorem Dat.s {S : Hp} {i : Str} : Dat S (.str i) (.str i) := by unfold Dat; rfl
theorem Dat.b {S : Hp} {i : Bool} : Dat S (.bl i) (.bl i) := by unfold Dat; rfl
theorem Dat.n {S : Hp} : Dat S .non .non := by unfold Dat; rfl
theorem BDat.i {H S : Hp} {i : Int} {v : V} (h : BDat H S (.int i) v) : v = .int i := by unfold BDat Dat at h; exact h
theorem BDat.s {H S : Hp} {i : Str} {v : V} (h : BDat H S (.str i) v) : v = .str i := by unfold BDat Dat at h; exact h
theorem BDat.b {H S : Hp} {i : Bool} {v : V} (h : BDat H S (.bl i) v) : v = .bl i := by unfold BDat Dat at h; exact h
theorem BDat.n {H S : Hp} {v : V} (h : BDat H S .non v) : v = .non := by unfold BDat Dat at h; exact h
theorem Dat.lstOf {S : Hp} {xs : List D} {vs : List V} {p : Addr} (h : S p = some (.lst vs)) (q : Dats S xs vs) : Dat S (.lst xs) (.ref p) := by
  unfold Dat
  exact ⟨p, vs, rfl, h, q⟩
/-- a list just laid, shared -/
theorem lay_lst {H S : Hp} {xs : List D} {vs : List V} {p : Addr} (sh : Same S H) (hp : H p = none) (q : Dats S xs vs) :
    Grow H S (upd H p (.lst vs)) (upd S p (.lst vs)) ∧ Dat (upd S p (.lst vs)) (.lst xs) (.ref p) := by
  have h0 := sh.free hp
  exact ⟨((Grow.refl sh).lay hp).share hp h0 upd_same, .lstOf upd_same (Dats.mono (same_upd h0) _ _ q)⟩

section
variable {X : Cx}
def gAdd : D → D → (D → Prop) → Prop
  | .int i, .int j, Q => Q (.int (i + j))
  | .str s, .str t, Q => s.length + t.length ≤ sizeLine ∧ Q (.str (s ++ t))
  | .lst xs, .lst ys, Q => xs.length + ys.length ≤ sizeLine ∧ Q (.lst (xs ++ ys))
  | _, _, _ => False
theorem dAdd : OpD X (binaryOp .Add) gAdd := by
  refine ⟨_, op_add.or (op_add_str.or op_cat), fun d e Q h H S u v Q' sh hd he k => ?_⟩
  unfold gAdd at h
  split at h
  · exact .inl ⟨_, _, hd.i, he.i, k _ _ H S h (.refl sh) .i⟩
  · exact .inr (.inl ⟨_, _, hd.s, he.s, h.1, k _ _ H S h.2 (.refl sh) .s⟩)
  · obtain ⟨a, vs, rfl, ra, qa⟩ := hd
    obtain ⟨b, ws, rfl, rb, qb⟩ := he
    refine .inr (.inr ⟨a, b, vs, ws, rfl, rfl, ra, rb, by rw [qa.len, qb.len]; exact h.1, fun p hp => ?_⟩)
    obtain ⟨g, z⟩ := lay_lst sh hp (qa.app qb)
    exact k _ _ _ _ h.2 g z
  · exact h.elim
def gInt (C : Int → Int → Prop) (f : Int → Int → Int) : D → D → (D → Prop) → Prop
  | .int i, .int j, Q => C i j ∧ Q (.int (f i j))
  | _, _, _ => False
def gInt0 (f : Int → Int → Int) : D → D → (D → Prop) → Prop
  | .int i, .int j, Q => Q (.int (f i j))
  | _, _, _ => False
theorem dInt {f : Value → Value → Sem Value} {C : Int → Int → Prop} {g : Int → Int → Int} (ho : OpR X f (rI C fun i j => .int (g i j))) : OpD X f (gInt C g) := by
  refine ⟨_, ho, fun d e Q h H S u v Q' sh hd he k => ?_⟩
  unfold gInt at h
  split at h
  · exact ⟨_, _, hd.i, he.i, h.1, k _ _ H S h.2 (.refl sh) .i⟩
  · exact h.elim
theorem dInt0 {f : Value → Value → Sem Value} {g : Int → Int → Int} (ho : OpR X f (rI0 fun i j => .int (g i j))) : OpD X f (gInt0 g) := by
  refine ⟨_, ho, fun d e Q h H S u v Q' sh hd he k => ?_⟩
  unfold gInt0 at h
  split at h
  · exact ⟨_, _, hd.i, he.i, k _ _ H S h (.refl sh) .i⟩
  · exact h.elim
theorem dSub : OpD X (binaryOp .Sub) (gInt0 fun i j => i - j) := dInt0 op_sub
theorem dDiv : OpD X (binaryOp .FloorDiv) (gInt CDivW fun i j => i / j) := dInt op_fdivW
theorem dMod : OpD X (binaryOp .Mod) (gInt (fun _ j => 0 < j) fun i j => i % j) := dInt op_mod
theorem dPow : OpD X (binaryOp .Pow) (gInt CPow fun i j => i ^ j.toNat) := dInt op_pow
theorem dShl : OpD X (binaryOp .LShift) (gInt CPow fun i j => i * 2 ^ j.toNat) := dInt op_shl
theorem dShr : OpD X (binaryOp .RShift) (gInt (fun _ j => 0 ≤ j) fun i j => i / 2 ^ j.toNat) := dInt op_shr
theorem dAnd : OpD X (binaryOp .BitAnd) (gInt0 fun i j => Builtin.bitAnd i j) := dInt0 op_and
def srep (n : Nat) (s : Str) : Str := ⟨((List.replicate n s.cps.toList).flatten).toArray⟩
theorem fold_app (n : Nat) (a b : Array Nat) : ((List.replicate n a).foldl (· ++ ·) b).toList = b.toList ++ (List.replicate n a.toList).flatten := by
  induction n generalizing b with
  | zero => simp
  | succ n ih =>
    simp only [List.replicate_succ, List.foldl_cons, List.flatten_cons]
    rw [ih, Array.toList_append, List.append_assoc]
theorem op_repS : OpR X (binaryOp .Mult) (fun x y H Q => ∃ i k, x = .str i ∧ y = .int k ∧ (-(2 ^ 63) ≤ k ∧ k < 2 ^ 63 ∧ i.length * k.toNat ≤ sizeLine) ∧ Q (.str (srep k.toNat i)) H) := by
  intro pins s σ H x y v u Q I rx ry h
  obtain ⟨i, k, rfl, rfl, ⟨k1, k2, k3⟩, q⟩ := h
  obtain ⟨t, rfl⟩ := rx
  obtain ⟨t', rfl⟩ := ry
  have fin : ∀ tk : Tok, ∀ z, z = srep k.toNat i → EP X pins σ Q (.str z tk) { s with toks := s.toks + 1 } := fun tk z hz => by
    subst hz
    exact ⟨.str _, H, I.tok _, ⟨_, rfl⟩, q⟩
  refine P.mul_str (by rw [decide_eq_false (by omega), decide_eq_false (by omega)]; rfl) (fun h1 h2 => ?_) (fun h1 h2 => ?_) ?_
  · have hk : k = (k.toNat : Int) := by omega
    have hs : (sizeLine : Int) = 16777216 := by rfl
    have h3 : (i.length : Int) * k ≤ 16777216 := by
      rw [hk]
      rw [← hs]
      exact_mod_cast k3
    have h4 : (i.length : Int) ≤ (2 ^ 63 - 1) / k := by
      rw [Int.le_ediv_iff_mul_le (by omega)]
      omega
    omega
  · unfold Builtin.Str.tooLong
    exact decide_eq_false (by omega)
  · have lz : (srep k.toNat i).length ≤ sizeLine := by
      have : (srep k.toNat i).length = i.length * k.toNat := by
        show (List.flatten _).toArray.size = _
        rw [List.size_toArray, List.length_flatten, List.map_replicate, List.sum_replicate_nat, Nat.mul_comm]
        rfl
      rw [this]
      exact k3
    split
    · rename_i h1
      refine ⟨by show (#[] : Array Nat).size ≤ _; simp, fin _ _ ?_⟩
      have : k.toNat = 0 := by omega
      rw [this]
      rfl
    · rename_i h1
      split
      · rename_i h2
        have e : i = srep k.toNat i := by
          rcases Bool.or_eq_true _ _ ▸ h2 with h2 | h2
          · have : k.toNat = 1 := by
              have : k = 1 := by simpa using h2
              omega
            rw [this]
            show i = ⟨(List.flatten [i.cps.toList]).toArray⟩
            simp
          · have : i.cps = #[] := by
              have : i.cps.size = 0 := (beq_iff_eq.mp h2 : i.length = 0)
              exact Array.eq_empty_of_size_eq_zero this
            have e2 : i = ⟨#[]⟩ := by
              cases i
              simp at this
              rw [this]
            rw [e2]
            unfold srep
            simp
        exact ⟨.str i, H, I, ⟨_, rfl⟩, by rw [e]; exact q⟩
      · have e : (⟨List.foldl (fun x1 x2 => x1 ++ x2) #[] (List.replicate k.toNat i.cps)⟩ : Str) = srep k.toNat i := by
          unfold srep
          congr 1
          apply Array.toList_inj.mp
          have := fold_app k.toNat i.cps #[]
          simpa using this
        exact ⟨by rw [e]; exact lz, fin _ _ e⟩
def gMul : D → D → (D → Prop) → Prop
  | .int i, .int j, Q => CMulW i j ∧ Q (.int (i * j))
  | .str s, .int k, Q => (-(2 ^ 63) ≤ k ∧ k < 2 ^ 63 ∧ s.length * k.toNat ≤ sizeLine) ∧ Q (.str (srep k.toNat s))
  | .lst xs, .int k, Q => (-(2 ^ 63) ≤ k ∧ k < 2 ^ 63 ∧ xs.length * k.toNat ≤ sizeLine) ∧ Q (.lst (List.replicate k.toNat xs).flatten)
  | _, _, _ => False
theorem dMul : OpD X (binaryOp .Mult) gMul := by
  refine ⟨_, op_mulW.or (op_repS.or op_rep), fun d e Q h H S u v Q' sh hd he k => ?_⟩
  unfold gMul at h
  split at h
  · exact .inl ⟨_, _, hd.i, he.i, h.1, k _ _ H S h.2 (.refl sh) .i⟩
  · exact .inr (.inl ⟨_, _, hd.s, he.i, h.1, k _ _ H S h.2 (.refl sh) .s⟩)
  · obtain ⟨a, vs, rfl, ra, qa⟩ := hd
    refine .inr (.inr ⟨a, _, vs, rfl, he.i, ra, h.1.1, h.1.2.1, by rw [qa.len]; exact h.1.2.2, fun p hp => ?_⟩)
    obtain ⟨g, z⟩ := lay_lst sh hp (qa.rep _)
    exact k _ _ _ _ h.2 g z
  · exact h.elim

/-! ### new lists by operators -/
structure FopD (X : Cx) (f : Value → Value → Sem Value) (g : D → D → (List D → Prop) → Prop) : Prop where
  ex : ∃ r : R2, OpR X f r ∧ ∀ (d e : D) (Q : List D → Prop), g d e Q → ∀ (H S : Hp) (u v : V) (Q' : VK), Same S H → BDat H S d u → BDat H S e v →
    (∀ z vs p, Q z → H p = none → Dats S z vs → Q' (.ref p) (upd H p (.lst vs))) → r u v H Q'
def gCatF : D → D → (List D → Prop) → Prop
  | .lst xs, .lst ys, Q => xs.length + ys.length ≤ sizeLine ∧ Q (xs ++ ys)
  | _, _, _ => False
theorem fCat : FopD X (binaryOp .Add) gCatF := by
  refine ⟨_, op_cat, fun d e Q h H S u v Q' sh hd he k => ?_⟩
  unfold gCatF at h
  split at h
  · obtain ⟨a, vs, rfl, ra, qa⟩ := hd
    obtain ⟨b, ws, rfl, rb, qb⟩ := he
    exact ⟨a, b, vs, ws, rfl, rfl, ra, rb, by rw [qa.len, qb.len]; exact h.1, fun p hp => k _ _ _ h.2 hp (qa.app qb)⟩
  · exact h.elim
def gRepF : D → D → (List D → Prop) → Prop
  | .lst xs, .int k, Q => (-(2 ^ 63) ≤ k ∧ k < 2 ^ 63 ∧ xs.length * k.toNat ≤ sizeLine) ∧ Q (List.replicate k.toNat xs).flatten
  | _, _, _ => False
theorem fRep : FopD X (binaryOp .Mult) gRepF := by
  refine ⟨_, op_rep, fun d e Q h H S u v Q' sh hd he k => ?_⟩
  unfold gRepF at h
  split at h
  · obtain ⟨a, vs, rfl, ra, qa⟩ := hd
    exact ⟨a, _, vs, rfl, he.i, ra, h.1.1, h.1.2.1, by rw [qa.len]; exact h.1.2.2, fun p hp => k _ _ _ h.2 hp (qa.rep _)⟩
  · exact h.elim
variable {E : XK} {e a b : Expr} {es : List Expr} {pos : Pos} {w wa wb : WE} {wl : WL}
def wOpF (g : D → D → (List D → Prop) → Prop) (wa wb : WE) : WL := fun x ρ Q => wa x ρ fun d => wb x ρ fun e => g d e Q
theorem df_op {op : Operator} {g : D → D → (List D → Prop) → Prop} (ho : FopD X (binaryOp op) g) (ha : BD X E a wa) (hb : BD X E b wb) : DF X E (.BinOp a op b pos) (wOpF g wa wb) := by
  obtain ⟨r, o, so⟩ := ho.ex
  obtain ⟨ta, pa, sa⟩ := ha.ex
  obtain ⟨tb, pb, sb⟩ := hb.ex
  refine ⟨_, pe_op o pa pb, fun x ρ Q hw F σ H S Q' rp ex k => ?_⟩
  refine sa x ρ _ hw F σ H S _ rp ex fun d u H1 S1 q1 g1 h1 => ?_
  refine sb x ρ _ q1 F σ H1 S1 _ (rp.grow g1) (ex.grow g1) fun e v H2 S2 q2 g2 h2 => ?_
  have g12 := g1.trans g2
  refine so d e Q q2 H2 S2 u v Q' g2.sh (h1.grow g2) h2 fun z vs p q3 hp h3 => ?_
  exact k z p vs _ S2 q3 (g12.lay hp) (g12.freeH hp) (g12.freeS hp) upd_same h3

/-! ### comparisons by data -/
/-- data that == tells apart as equality does, at most so deep -/
def nb : Nat → D → Bool
  | 0, _ => false
  | _ + 1, .non => true
  | _ + 1, .int _ => true
  | _ + 1, .str s => PyData.strOk s
  | n + 1, .lst xs => xs.all (nb n)
  | n + 1, .tup xs => xs.all (nb n)
  | _ + 1, _ => false
def toPy : Nat → D → PyData
  | 0, _ => .none
  | _ + 1, .non => .none
  | _ + 1, .int i => .int i
  | _ + 1, .str s => .str s
  | n + 1, .lst xs => .list (xs.map (toPy n))
  | n + 1, .tup xs => .tuple (xs.map (toPy n))
  | _ + 1, _ => .none
theorem nb_dp {H : Hp} {K : PySem.W.Frag} : ∀ (n : Nat) (d : D) (v : V), nb n d = true → Dat H d v → Dp K H v (toPy n d)
  | 0, _, _, h, _ => by simp [nb] at h
  | n + 1, .non, v, _, q => by unfold Dat at q; subst q; exact .non
  | n + 1, .int i, v, _, q => by unfold Dat at q; subst q; exact .int i
  | n + 1, .str i, v, _, q => by unfold Dat at q; subst q; exact .str i
  | n + 1, .bl _, v, h, _ => by simp [nb] at h
  | n + 1, .dct _ _, v, h, _ => by simp [nb] at h
  | n + 1, .ref _, v, h, _ => by simp [nb] at h
  | n + 1, .scr _, v, h, _ => by simp [nb] at h
  | n + 1, .lst xs, v, h, q => by
    unfold Dat at q
    obtain ⟨a, vs, rfl, r, q⟩ := q
    have h' : ∀ x ∈ xs, nb n x = true := by simpa [nb] using h
    refine .lst (.of r) ?_
    clear r h
    induction xs generalizing vs with
    | nil => unfold Dats at q; subst q; exact .nil
    | cons x xs ih =>
      unfold Dats at q
      obtain ⟨v, r, rfl, q1, q2⟩ := q
      exact .cons (nb_dp n x v (h' x (by simp)) q1) (ih r q2 fun y hy => h' y (by simp [hy]))
  | n + 1, .tup xs, v, h, q => by
    unfold Dat at q
    obtain ⟨a, vs, rfl, r, q⟩ := q
    have h' : ∀ x ∈ xs, nb n x = true := by simpa [nb] using h
    refine .tup (.of r) ?_
    clear r h
    induction xs generalizing vs with
    | nil => unfold Dats at q; subst q; exact .nil
    | cons x xs ih =>
      unfold Dats at q
      obtain ⟨v, r, rfl, q1, q2⟩ := q
      exact .cons (nb_dp n x v (h' x (by simp)) q1) (ih r q2 fun y hy => h' y (by simp [hy]))
omit [KC] in
theorem nb_shape : ∀ (n : Nat) (d : D), nb n d = true → (toPy n d).canLay0 = true ∧ (toPy n d).depth ≤ n
  | 0, _, h => by simp [nb] at h
  | n + 1, .non, _ => by simp [toPy, PyData.canLay0, PyData.depth]
  | n + 1, .int i, _ => by simp [toPy, PyData.canLay0, PyData.depth]
  | n + 1, .str i, h => by simpa [toPy, PyData.canLay0, PyData.depth, nb] using h
  | n + 1, .bl _, h => by simp [nb] at h
  | n + 1, .dct _ _, h => by simp [nb] at h
  | n + 1, .ref _, h => by simp [nb] at h
  | n + 1, .scr _, h => by simp [nb] at h
  | n + 1, .lst xs, h => by
    have h' : ∀ x ∈ xs, nb n x = true := by simpa [nb] using h
    have key : PyData.canLayAll0 (xs.map (toPy n)) = true ∧ PyData.depthAll (xs.map (toPy n)) ≤ n := by
      clear h
      induction xs with
      | nil => simp [PyData.canLayAll0, PyData.depthAll]
      | cons x xs ih =>
        obtain ⟨i1, i2⟩ := ih fun y hy => h' y (by simp [hy])
        obtain ⟨j1, j2⟩ := nb_shape n x (h' x (by simp))
        simp only [List.map_cons, PyData.canLayAll0, PyData.depthAll, i1, j1, Bool.and_self, true_and]
        omega
    simp only [toPy, PyData.canLay0, PyData.depth, key.1, true_and]
    omega
  | n + 1, .tup xs, h => by
    have h' : ∀ x ∈ xs, nb n x = true := by simpa [nb] using h
    have key : PyData.canLayAll0 (xs.map (toPy n)) = true ∧ PyData.depthAll (xs.map (toPy n)) ≤ n := by
      clear h
      induction xs with
      | nil => simp [PyData.canLayAll0, PyData.depthAll]
      | cons x xs ih =>
        obtain ⟨i1, i2⟩ := ih fun y hy => h' y (by simp [hy])
        obtain ⟨j1, j2⟩ := nb_shape n x (h' x (by simp))
        simp only [List.map_cons, PyData.canLayAll0, PyData.depthAll, i1, j1, Bool.and_self, true_and]
        omega
    simp only [toPy, PyData.canLay0, PyData.depth, key.1, true_and]
    omega
omit [KC] in
theorem eqvAll_iff {n : Nat} (ih : ∀ d e : D, nb n d = true → nb n e = true → (PyData.eqv (toPy n d) (toPy n e) = true ↔ d = e)) : ∀ (xs ys : List D), (∀ x ∈ xs, nb n x = true) → (∀ y ∈ ys, nb n y = true) →
    (PyData.eqvAll (xs.map (toPy n)) (ys.map (toPy n)) = true ↔ xs = ys)
  | [], [], _, _ => by simp [PyData.eqvAll]
  | [], _ :: _, _, _ => by simp [PyData.eqvAll]
  | _ :: _, [], _, _ => by simp [PyData.eqvAll]
  | x :: xs, y :: ys, hx, hy => by
    simp only [List.map_cons, PyData.eqvAll, Bool.and_eq_true, List.cons.injEq]
    rw [ih x y (hx x (by simp)) (hy y (by simp)), eqvAll_iff ih xs ys (fun z hz => hx z (by simp [hz])) fun z hz => hy z (by simp [hz])]
omit [KC] in
theorem eqv_iff : ∀ (n : Nat) (d e : D), nb n d = true → nb n e = true → (PyData.eqv (toPy n d) (toPy n e) = true ↔ d = e)
  | 0, _, _, h, _ => by simp [nb] at h
  | n + 1, d, e, h, g => by
    have ih := eqv_iff n
    cases d <;> cases e <;> simp_all [nb, toPy, PyData.eqv]
    · rename_i xs ys
      exact eqvAll_iff ih xs ys h g
    · rename_i xs ys
      exact eqvAll_iff ih xs ys h g
omit [KC] in
theorem nb_shaped {d : D} (h : nb 20 d = true) : SeqAt.shaped (toPy 20 d) = true := by
  obtain ⟨h1, h2⟩ := nb_shape 20 d h
  unfold SeqAt.shaped
  rw [h1, decide_eq_true (by omega)]
  rfl
open Classical in
noncomputable def deq (d e : D) : Bool := decide (d = e)
def gEq (neg : Bool) : D → D → (D → Prop) → Prop
  | .bl i, .bl j, Q => Q (.bl (neg ^^ (i == j)))
  | .int i, .int j, Q => Q (.bl (neg ^^ decide (i = j)))
  | .str i, .str j, Q => Q (.bl (neg ^^ decide (i = j)))
  | d, e, Q => (nb 20 d = true ∧ nb 20 e = true) ∧ Q (.bl (neg ^^ deq d e))
omit [KC] in
theorem eqv_deq {d e : D} (h : nb 20 d = true) (g : nb 20 e = true) : PyData.eqv (toPy 20 d) (toPy 20 e) = deq d e := by
  rw [Bool.eq_iff_iff, eqv_iff 20 d e h g]
  simp [deq]
omit [KC] in
theorem dec_bl' {i j : Bool} : decide (V.bl i = V.bl j) = (i == j) := by
  rw [Bool.eq_iff_iff]
  simp
theorem dEq {k : Nat} (hr : Room k X.A) : OpD X (compareOp .Eq) (gEq false) := by
  refine ⟨_, op_eq.or (op_eqD hr.units), fun d e Q h H S u v Q' sh hd he k => ?_⟩
  unfold gEq at h
  split at h
  · cases hd.b
    cases he.b
    exact .inl ⟨rfl, by rw [dec_bl']; simpa using k _ _ H S h (.refl sh) .b⟩
  · cases hd.i
    cases he.i
    exact .inl ⟨rfl, by simpa using k _ _ H S h (.refl sh) .b⟩
  · cases hd.s
    cases he.s
    exact .inl ⟨rfl, by simpa using k _ _ H S h (.refl sh) .b⟩
  · obtain ⟨⟨n1, n2⟩, h⟩ := h
    refine .inr ⟨_, _, nb_dp 20 _ u n1 (hd.full sh), nb_dp 20 _ v n2 (he.full sh), nb_shaped n1, nb_shaped n2, ?_⟩
    rw [eqv_deq n1 n2]
    simpa using k _ _ H S h (.refl sh) .b
theorem dNe {k : Nat} (hr : Room k X.A) : OpD X (compareOp .NotEq) (gEq true) := by
  refine ⟨_, op_ne.or (op_neD hr.units), fun d e Q h H S u v Q' sh hd he k => ?_⟩
  unfold gEq at h
  split at h
  · cases hd.b
    cases he.b
    exact .inl ⟨rfl, by rw [dec_bl']; simpa using k _ _ H S h (.refl sh) .b⟩
  · cases hd.i
    cases he.i
    exact .inl ⟨rfl, by simpa using k _ _ H S h (.refl sh) .b⟩
  · cases hd.s
    cases he.s
    exact .inl ⟨rfl, by simpa using k _ _ H S h (.refl sh) .b⟩
  · obtain ⟨⟨n1, n2⟩, h⟩ := h
    refine .inr ⟨_, _, nb_dp 20 _ u n1 (hd.full sh), nb_dp 20 _ v n2 (he.full sh), nb_shaped n1, nb_shaped n2, ?_⟩
    rw [eqv_deq n1 n2]
    simpa using k _ _ H S h (.refl sh) .b
def gCmp (p : Int → Int → Bool) : D → D → (D → Prop) → Prop
  | .int i, .int j, Q => Q (.bl (p i j))
  | _, _, _ => False
theorem dCmp {f : Value → Value → Sem Value} {g : Int → Int → Bool} (ho : OpR X f (rI0 fun i j => .bl (g i j))) : OpD X f (gCmp g) := by
  refine ⟨_, ho, fun d e Q h H S u v Q' sh hd he k => ?_⟩
  unfold gCmp at h
  split at h
  · exact ⟨_, _, hd.i, he.i, k _ _ H S h (.refl sh) .b⟩
  · exact h.elim
theorem dLt : OpD X (compareOp .Lt) (gCmp fun i j => decide (i < j)) := dCmp op_lt
theorem dLe : OpD X (compareOp .LtE) (gCmp fun i j => decide (i ≤ j)) := dCmp op_le
theorem dGt : OpD X (compareOp .Gt) (gCmp fun i j => decide (j < i)) := dCmp op_gt
theorem dGe : OpD X (compareOp .GtE) (gCmp fun i j => decide (j ≤ i)) := dCmp op_ge
/-- one sign in a text -/
def gInS (neg : Bool) : D → D → (D → Prop) → Prop
  | .str s, .str t, Q => match s.cps.toList with
    | [c] => Q (.bl (neg ^^ decide (c ∈ t.cps.toList)))
    | _ => False
  | _, _, _ => False
omit [KC] in
theorem str_one {s : Str} {c : Nat} (h : s.cps.toList = [c]) : s = ⟨#[c]⟩ := by
  cases s with
  | mk cps =>
    congr 1
    exact Array.ext' (by simpa using h)
theorem dInS : OpD X (compareOp .In) (gInS false) := by
  refine ⟨_, op_in_sign, fun d e Q h H S u v Q' sh hd he k => ?_⟩
  unfold gInS at h
  split at h
  · split at h
    · rename_i c hc
      cases hd.s
      cases he.s
      exact ⟨c, _, by rw [str_one hc], rfl, by simpa using k _ _ H S h (.refl sh) .b⟩
    · exact h.elim
  · exact h.elim
theorem dNotInS : OpD X (compareOp .NotIn) (gInS true) := by
  refine ⟨_, op_notIn_sign, fun d e Q h H S u v Q' sh hd he k => ?_⟩
  unfold gInS at h
  split at h
  · split at h
    · rename_i c hc
      cases hd.s
      cases he.s
      exact ⟨c, _, by rw [str_one hc], rfl, by simpa using k _ _ H S h (.refl sh) .b⟩
    · exact h.elim
  · exact h.elim
/-- is None -/
def isN : D → Bool
  | .non => true
  | _ => false
theorem isN_sound {H S : Hp} {d : D} {v : V} (h : BDat H S d v) : decide (v = V.non) = isN d := by
  cases d <;> simp only [BDat, Dat] at h
  · subst h; simp [isN]
  · subst h; simp [isN]
  · subst h; simp [isN]
  · subst h; simp [isN]
  · obtain ⟨a, _, rfl, _⟩ := h; simp [isN]
  · obtain ⟨a, _, rfl, _⟩ := h; simp [isN]
  · obtain ⟨a, _, rfl, _⟩ := h; simp [isN]
  · subst h; simp [isN]
  · obtain ⟨a, rfl, _⟩ := h; simp [isN]
def gIsN (neg : Bool) : D → D → (D → Prop) → Prop := fun d e Q => isN e = true ∧ Q (.bl (neg ^^ isN d))
theorem isN_v {H S : Hp} {d : D} {v : V} (h : BDat H S d v) (n : isN d = true) : v = .non := by
  have := isN_sound h
  rw [n] at this
  simpa using this
theorem dIsN : OpD X (compareOp .Is) (gIsN false) := by
  refine ⟨_, op_isN, fun d e Q h H S u v Q' sh hd he k => ?_⟩
  refine ⟨isN_v he h.1, ?_⟩
  rw [isN_sound hd]
  simpa using k _ _ H S h.2 (.refl sh) .b
theorem dIsNotN : OpD X (compareOp .IsNot) (gIsN true) := by
  refine ⟨_, op_notN, fun d e Q h H S u v Q' sh hd he k => ?_⟩
  refine ⟨isN_v he h.1, ?_⟩
  rw [isN_sound hd]
  simpa using k _ _ H S h.2 (.refl sh) .b
def gIsB : D → D → (D → Prop) → Prop
  | .bl i, .bl j, Q => Q (.bl (decide (i = j)))
  | _, _, _ => False
theorem dIsB : OpD X (compareOp .Is) gIsB := by
  refine ⟨_, op_isBl, fun d e Q h H S u v Q' sh hd he k => ?_⟩
  unfold gIsB at h
  split at h
  · exact ⟨_, _, hd.b, he.b, k _ _ H S h (.refl sh) .b⟩
  · exact h.elim

/-! ### subscripts -/
def gIdx : D → D → (D → Prop) → Prop
  | .lst xs, .int i, Q => ∃ d, atI xs i = some d ∧ Q d
  | .tup xs, .int i, Q => ∃ d, atI xs i = some d ∧ Q d
  | .scr ns, .int i, Q => ∃ n, atI ns i = some n ∧ Q (.int n)
  | .str z, .int i, Q => z.length ≤ sizeLine ∧ ∃ c, atI z.cps.toList i = some c ∧ Q (.str ⟨#[c]⟩)
  | _, _, _ => False
theorem atI_dats {S : Hp} {xs : List D} {vs : List V} {i : Int} {d : D} (q : Dats S xs vs) (h : atI xs i = some d) : ∃ v, atI vs i = some v ∧ Dat S d v := by
  unfold atI at h ⊢
  rw [q.len]
  cases e : ixN xs.length i with
  | none => rw [e] at h; cases h
  | some j =>
    rw [e] at h
    exact q.get h
omit [KC] in
theorem ex_atI_map {α β : Type} {f : α → β} {xs : List α} {i : Int} {Q : β → Prop} : (∃ d, atI (xs.map f) i = some d ∧ Q d) ↔ ∃ a, atI xs i = some a ∧ Q (f a) := by
  rw [show atI (xs.map f) i = (atI xs i).map f from by
    unfold atI
    rw [List.length_map]
    cases ixN xs.length i with
    | none => rfl
    | some j => simp]
  constructor
  · rintro ⟨d, h, q⟩
    cases e : atI xs i with
    | none => rw [e] at h; cases h
    | some a =>
      rw [e] at h
      cases h
      exact ⟨a, rfl, q⟩
  · rintro ⟨a, h, q⟩
    exact ⟨f a, by rw [h]; rfl, q⟩
omit [KC] in
theorem atI0 {α : Type} {x : α} {r : List α} : atI (x :: r) 0 = some x := atI_nat (j := 0) rfl
omit [KC] in
theorem atI1 {α : Type} {x y : α} {r : List α} : atI (x :: y :: r) 1 = some y := atI_nat (j := 1) rfl
omit [KC] in
theorem atI2 {α : Type} {x y z : α} {r : List α} : atI (x :: y :: z :: r) 2 = some z := atI_nat (j := 2) rfl
omit [KC] in
theorem atI_map {α β : Type} {f : α → β} {xs : List α} {i : Int} : atI (xs.map f) i = (atI xs i).map f := by
  unfold atI
  rw [List.length_map]
  cases ixN xs.length i with
  | none => rfl
  | some j => simp
theorem ed_ix (ha : BD X E a wa) (hb : BD X E b wb) (hs : PlainIx b := by exact fun _ _ => rfl) (hK : X.K = KC.K := by rfl) : ED X E (.Subscript a b pos) (wOp gIdx wa wb) := by
  obtain ⟨ta, pa, sa⟩ := ha.ex
  obtain ⟨tb, pb, sb⟩ := hb.ex
  refine ⟨_, pe_ix ix_seq pa pb hs, fun x ρ Q hw F σ H S Q' rp ex k => ?_⟩
  refine sa x ρ _ hw F σ H S _ rp ex fun d u H1 S1 q1 g1 h1 => ?_
  refine sb x ρ _ q1 F σ H1 S1 _ (rp.grow g1) (ex.grow g1) fun e v H2 S2 q2 g2 h2 => ?_
  have g12 := g1.trans g2
  have h1 := h1.grow g2
  unfold gIdx at q2
  split at q2
  · obtain ⟨d, hd, q⟩ := q2
    obtain ⟨p, vs, rfl, r, z⟩ := h1
    obtain ⟨y, hy, hz⟩ := atI_dats z hd
    exact .inl ⟨p, vs, _, y, rfl, h2.i, .of r, hy, k _ _ H2 S2 q g12 hz⟩
  · obtain ⟨d, hd, q⟩ := q2
    simp only [BDat, Dat] at h1
    obtain ⟨p, vs, rfl, r, z⟩ := h1
    obtain ⟨y, hy, hz⟩ := atI_dats z hd
    exact .inr (.inl ⟨p, vs, _, y, rfl, h2.i, .of (g12.sh _ _ r), hy, k _ _ H2 S2 q g12 hz⟩)
  · obtain ⟨d, hd, q⟩ := q2
    simp only [BDat, Dat] at h1
    obtain ⟨p, rfl, r⟩ := h1
    exact .inl ⟨p, _, _, .int d, rfl, h2.i, by rw [hK]; exact g12.sh.seq r, by rw [atI_map, hd]; rfl, k _ _ H2 S2 q g12 .i⟩
  · obtain ⟨hz, c, hc, q⟩ := q2
    exact .inr (.inr ⟨_, _, c, h1.s, h2.i, hz, hc, k _ _ H2 S2 q g12 .s⟩)
  · exact q2.elim

/-! ### slices -/
structure OD (X : Cx) (E : XK) (e : Option Expr) (w : XS → Ev → (Option Int → Prop) → Prop) : Prop where
  ex : ∃ t, PO X e t ∧ ∀ (x : XS) (ρ : Ev) (Q : Option Int → Prop), w x ρ Q → ∀ (F : Fr) (σ : L2.St) (H S : Hp) (Q' : Option Int → Hp → Prop), Rep F ρ σ H S → ExOk X.mg E x H S →
    (∀ o H' S', Q o → Grow H S H' S' → Q' o H') → t σ H Q'
abbrev WO := XS → Ev → (Option Int → Prop) → Prop
def woNone : WO := fun _ _ Q => Q none
def woSome (wa : WE) : WO := fun x ρ Q => wa x ρ fun d => match d with
  | .int i => Q (some i)
  | _ => False
theorem od_none : OD X E none woNone := ⟨_, po_none, fun x ρ Q hw F σ H S Q' rp ex k => k none H S hw (.refl rp.sh)⟩
theorem od_some (ha : BD X E a wa) : OD X E (some a) (woSome wa) := by
  obtain ⟨t, p, s⟩ := ha.ex
  refine ⟨_, po_some p, fun x ρ Q hw F σ H S Q' rp ex k => ?_⟩
  refine s x ρ _ hw F σ H S _ rp ex fun d u H1 S1 q1 g1 h1 => ?_
  cases d with
  | int i => exact ⟨i, h1.i, k _ H1 S1 q1 g1⟩
  | _ => exact q1.elim
def cut {α : Type} (xs : List α) (lo hi : Option Int) : List α := (xs.drop (HT.sIx xs.length 0 lo)).take (HT.sIx xs.length xs.length hi - HT.sIx xs.length 0 lo)
omit [KC] in
theorem cut_map {α β : Type} (f : α → β) (xs : List α) (lo hi : Option Int) : cut (xs.map f) lo hi = (cut xs lo hi).map f := by
  unfold cut
  rw [List.length_map, List.map_take, List.map_drop]
theorem cut_dats {S : Hp} {xs : List D} {vs : List V} (q : Dats S xs vs) (lo hi : Option Int) : Dats S (cut xs lo hi) (cutV vs lo hi) := by
  unfold cut cutV
  rw [q.len]
  exact (q.drop _).take _
variable {lo hi : Option Expr} {wo wh : XS → Ev → (Option Int → Prop) → Prop} {p2 : Pos}
def gSl : D → Option Int → Option Int → (D → Prop) → Prop
  | .lst xs, l, h, Q => Q (.lst (cut xs l h))
  | .scr ns, l, h, Q => Q (.lst ((cut ns l h).map D.int))
  | .str z, l, h, Q => z.length ≤ sizeLine ∧ Q (.str (cutS z l h))
  | .tup xs, l, h, Q => ¬ (HT.sIx xs.length 0 l = 0 ∧ HT.sIx xs.length xs.length h = xs.length) ∧ Q (.tup (cut xs l h))
  | _, _, _, _ => False
theorem lay_tup {H S : Hp} {xs : List D} {vs : List V} {p : Addr} (sh : Same S H) (hp : H p = none) (q : Dats S xs vs) :
    Grow H S (upd H p (.tup vs)) (upd S p (.tup vs)) ∧ Dat (upd S p (.tup vs)) (.tup xs) (.ref p) := by
  have h0 := sh.free hp
  refine ⟨((Grow.refl sh).lay hp).share hp h0 upd_same, ?_⟩
  unfold Dat
  exact ⟨p, vs, rfl, upd_same, Dats.mono (same_upd h0) _ _ q⟩
def wSl (wa : WE) (wo wh : WO) : WE := fun x ρ Q => wa x ρ fun d => wo x ρ fun l => wh x ρ fun h => gSl d l h Q
theorem ed_sl (ha : BD X E a wa) (hl : OD X E lo wo) (hh : OD X E hi wh) (hK : X.K = KC.K := by rfl) : ED X E (.Subscript a (.Slice lo hi none p2) pos) (wSl wa wo wh) := by
  obtain ⟨ta, pa, sa⟩ := ha.ex
  obtain ⟨tl, pl, sl⟩ := hl.ex
  obtain ⟨th, ph, sh⟩ := hh.ex
  refine ⟨_, pe_slice (sl_list.or (sl_str.or sl_tup)) pa pl ph, fun x ρ Q hw F σ H S Q' rp ex k => ?_⟩
  refine sa x ρ _ hw F σ H S _ rp ex fun d u H1 S1 q1 g1 h1 => ?_
  refine sl x ρ _ q1 F σ H1 S1 _ (rp.grow g1) (ex.grow g1) fun l H2 S2 q2 g2 => ?_
  have g12 := g1.trans g2
  refine sh x ρ _ q2 F σ H2 S2 _ (rp.grow g12) (ex.grow g12) fun h H3 S3 q3 g3 => ?_
  have g13 := g12.trans g3
  have h1 := (h1.grow g2).grow g3
  unfold gSl at q3
  split at q3
  · obtain ⟨p, vs, rfl, r, z⟩ := h1
    refine .inl ⟨p, vs, rfl, .of r, fun p hp => ?_⟩
    obtain ⟨g, y⟩ := lay_lst g13.sh hp (cut_dats z l h)
    exact k _ _ _ _ q3 (g13.trans g) y
  · simp only [BDat, Dat] at h1
    obtain ⟨p, rfl, r⟩ := h1
    refine .inl ⟨p, _, rfl, by rw [hK]; exact g13.sh.seq r, fun p hp => ?_⟩
    obtain ⟨g, y⟩ := lay_lst g13.sh hp (cut_dats (Dats.ints _) l h)
    rw [cut_map] at y
    exact k _ _ _ _ q3 (g13.trans g) y
  · exact .inr (.inl ⟨_, h1.s, q3.1, k _ _ H3 S3 q3.2 g13 .s⟩)
  · simp only [BDat, Dat] at h1
    obtain ⟨p, vs, rfl, r, z⟩ := h1
    refine .inr (.inr ⟨p, vs, rfl, .of (g13.sh _ _ r), by rw [z.len]; exact q3.1, fun p hp => ?_⟩)
    obtain ⟨g, y⟩ := lay_tup g13.sh hp (cut_dats z l h)
    exact k _ _ _ _ q3.2 (g13.trans g) y
  · exact q3.elim
def gSlF : D → Option Int → Option Int → (List D → Prop) → Prop
  | .lst xs, l, h, Q => Q (cut xs l h)
  | .scr ns, l, h, Q => Q ((cut ns l h).map D.int)
  | _, _, _, _ => False
def wSlF (wa : WE) (wo wh : WO) : WL := fun x ρ Q => wa x ρ fun d => wo x ρ fun l => wh x ρ fun h => gSlF d l h Q
theorem df_sl (ha : BD X E a wa) (hl : OD X E lo wo) (hh : OD X E hi wh) (hK : X.K = KC.K := by rfl) : DF X E (.Subscript a (.Slice lo hi none p2) pos) (wSlF wa wo wh) := by
  obtain ⟨ta, pa, sa⟩ := ha.ex
  obtain ⟨tl, pl, sl⟩ := hl.ex
  obtain ⟨th, ph, sh⟩ := hh.ex
  refine ⟨_, pe_slice sl_list pa pl ph, fun x ρ Q hw F σ H S Q' rp ex k => ?_⟩
  refine sa x ρ _ hw F σ H S _ rp ex fun d u H1 S1 q1 g1 h1 => ?_
  refine sl x ρ _ q1 F σ H1 S1 _ (rp.grow g1) (ex.grow g1) fun l H2 S2 q2 g2 => ?_
  have g12 := g1.trans g2
  refine sh x ρ _ q2 F σ H2 S2 _ (rp.grow g12) (ex.grow g12) fun h H3 S3 q3 g3 => ?_
  have g13 := g12.trans g3
  have h1 := (h1.grow g2).grow g3
  unfold gSlF at q3
  split at q3
  · obtain ⟨p, vs, rfl, r, z⟩ := h1
    exact ⟨p, vs, rfl, .of r, fun p hp => k _ p _ _ S3 q3 (g13.lay hp) (g13.freeH hp) (g13.freeS hp) upd_same (cut_dats z l h)⟩
  · simp only [BDat, Dat] at h1
    obtain ⟨p, rfl, r⟩ := h1
    refine ⟨p, _, rfl, by rw [hK]; exact g13.sh.seq r, fun p hp => ?_⟩
    refine k _ p _ _ S3 q3 (g13.lay hp) (g13.freeH hp) (g13.freeS hp) upd_same ?_
    rw [← cut_map]
    exact cut_dats (Dats.ints _) l h
  · exact q3.elim
end
end NL

namespace NL
open PySem PySem.Spec L2
open PyProof.Rows hiding St
variable [KC]

/-! ### built-in functions by data -/
section
variable {X : Cx}
structure CalD (X : Cx) (f : Value) (g : List D → (D → Prop) → Prop) : Prop where
  ex : ∃ r : List V → Hp → VK → Prop, CallR X f r ∧ ∀ (ds : List D) (Q : D → Prop), g ds Q → ∀ (H S : Hp) (vs : List V) (Q' : VK), Same S H → BDats H S ds vs →
    (∀ z y H' S', Q z → Grow H S H' S' → Dat S' z y → Q' y H') → r vs H Q'
structure CalF (X : Cx) (f : Value) (g : List D → (List D → Prop) → Prop) : Prop where
  ex : ∃ r : List V → Hp → VK → Prop, CallR X f r ∧ ∀ (ds : List D) (Q : List D → Prop), g ds Q → ∀ (H S : Hp) (vs : List V) (Q' : VK), Same S H → BDats H S ds vs →
    (∀ z ws p, Q z → H p = none → Dats S z ws → Q' (.ref p) (upd H p (.lst ws))) → r vs H Q'
def wB (g : List D → (D → Prop) → Prop) (wl : WL) : WE := fun x ρ Q => wl x ρ fun ds => g ds Q
def wBF (g : List D → (List D → Prop) → Prop) (wl : WL) : WL := fun x ρ Q => wl x ρ fun ds => g ds Q
variable {E : XK} {e a b : Expr} {es : List Expr} {pos p : Pos} {x m : Str} {w wa wb : WE} {wl : WL}
theorem ed_callB {id : String} {g : List D → (D → Prop) → Prop} (hc : CalD X (.builtin id) g) (hg : Gl X x) (hm : X.mg x = none) (hv : bootBuiltins x = some (.builtin id)) (ha : AB X E (e :: es) wl) (hn : x ≠ "__name__" := by decide)
    (hdb : (x == ("__debug__" : Str)) = false := by decide) (he : starEach (e :: es) X.env = (false, eval e X.env) :: starEach es X.env := by rfl) (hpl : (backTo pos (starEach es X.env)).any (·.1) = false := by rfl) :
    ED X E (.Call (.Name x p) (e :: es) [] pos) (wB g wl) := by
  obtain ⟨r, o, so⟩ := hc.ex
  obtain ⟨t, pt, s⟩ := ha.ex
  refine ⟨_, pe_callB o hg hm hv pt hn hdb he hpl, fun x ρ Q hw F σ H S Q' rp ex k => ?_⟩
  refine s x ρ _ hw F σ H S _ rp ex fun ds vs H1 S1 q1 g1 h1 => ?_
  exact so ds Q q1 H1 S1 vs Q' g1.sh h1 fun z y H2 S2 q2 g2 h2 => k z y H2 S2 q2 (g1.trans g2) h2
theorem ed_callT {T : String} {g : List D → (D → Prop) → Prop} (hc : CalD X (.type T) g) (hg : Gl X x) (hm : X.mg x = none) (hv : bootBuiltins x = some (.type T)) (ha : AB X E (e :: es) wl) (hn : x ≠ "__name__" := by decide)
    (hdb : (x == ("__debug__" : Str)) = false := by decide) (he : starEach (e :: es) X.env = (false, eval e X.env) :: starEach es X.env := by rfl) (hpl : (backTo pos (starEach es X.env)).any (·.1) = false := by rfl) :
    ED X E (.Call (.Name x p) (e :: es) [] pos) (wB g wl) := by
  obtain ⟨r, o, so⟩ := hc.ex
  obtain ⟨t, pt, s⟩ := ha.ex
  refine ⟨_, pe_callTy o hg hm hv pt hn hdb he hpl, fun x ρ Q hw F σ H S Q' rp ex k => ?_⟩
  refine s x ρ _ hw F σ H S _ rp ex fun ds vs H1 S1 q1 g1 h1 => ?_
  exact so ds Q q1 H1 S1 vs Q' g1.sh h1 fun z y H2 S2 q2 g2 h2 => k z y H2 S2 q2 (g1.trans g2) h2
theorem df_callB {id : String} {g : List D → (List D → Prop) → Prop} (hc : CalF X (.builtin id) g) (hg : Gl X x) (hm : X.mg x = none) (hv : bootBuiltins x = some (.builtin id)) (ha : AB X E (e :: es) wl) (hn : x ≠ "__name__" := by decide)
    (hdb : (x == ("__debug__" : Str)) = false := by decide) (he : starEach (e :: es) X.env = (false, eval e X.env) :: starEach es X.env := by rfl) (hpl : (backTo pos (starEach es X.env)).any (·.1) = false := by rfl) :
    DF X E (.Call (.Name x p) (e :: es) [] pos) (wBF g wl) := by
  obtain ⟨r, o, so⟩ := hc.ex
  obtain ⟨t, pt, s⟩ := ha.ex
  refine ⟨_, pe_callB o hg hm hv pt hn hdb he hpl, fun x ρ Q hw F σ H S Q' rp ex k => ?_⟩
  refine s x ρ _ hw F σ H S _ rp ex fun ds vs H1 S1 q1 g1 h1 => ?_
  exact so ds Q q1 H1 S1 vs Q' g1.sh h1 fun z ws p q2 hp h2 => k z p ws _ S1 q2 (g1.lay hp) (g1.freeH hp) (g1.freeS hp) upd_same h2
theorem df_callT {T : String} {g : List D → (List D → Prop) → Prop} (hc : CalF X (.type T) g) (hg : Gl X x) (hm : X.mg x = none) (hv : bootBuiltins x = some (.type T)) (ha : AB X E (e :: es) wl) (hn : x ≠ "__name__" := by decide)
    (hdb : (x == ("__debug__" : Str)) = false := by decide) (he : starEach (e :: es) X.env = (false, eval e X.env) :: starEach es X.env := by rfl) (hpl : (backTo pos (starEach es X.env)).any (·.1) = false := by rfl) :
    DF X E (.Call (.Name x p) (e :: es) [] pos) (wBF g wl) := by
  obtain ⟨r, o, so⟩ := hc.ex
  obtain ⟨t, pt, s⟩ := ha.ex
  refine ⟨_, pe_callTy o hg hm hv pt hn hdb he hpl, fun x ρ Q hw F σ H S Q' rp ex k => ?_⟩
  refine s x ρ _ hw F σ H S _ rp ex fun ds vs H1 S1 q1 g1 h1 => ?_
  exact so ds Q q1 H1 S1 vs Q' g1.sh h1 fun z ws p q2 hp h2 => k z p ws _ S1 q2 (g1.lay hp) (g1.freeH hp) (g1.freeS hp) upd_same h2

def gLen : List D → (D → Prop) → Prop
  | [.str s], Q => s.length ≤ sizeLine ∧ Q (.int s.length)
  | [.lst xs], Q => Q (.int xs.length)
  | [.tup xs], Q => Q (.int xs.length)
  | [.scr xs], Q => Q (.int xs.length)
  | [.dct ks xs], Q => Q (.int xs.length)
  | _, _ => False
theorem BDats.one {H S : Hp} {d : D} {vs : List V} (h : BDats H S [d] vs) : ∃ v, vs = [v] ∧ BDat H S d v := by
  obtain ⟨v, r, e, h1, h2⟩ := h
  unfold BDats at h2
  subst h2
  exact ⟨v, e, h1⟩
theorem BDats.two {H S : Hp} {d d' : D} {vs : List V} (h : BDats H S [d, d'] vs) : ∃ v v', vs = [v, v'] ∧ BDat H S d v ∧ BDat H S d' v' := by
  obtain ⟨v, r, e, h1, v', r', e', h2, h3⟩ := h
  unfold BDats at h3
  subst h3
  subst e'
  exact ⟨v, v', e, h1, h2⟩
theorem cLen (hK : X.K = KC.K := by rfl) : CalD X (.builtin "len") gLen := by
  refine ⟨_, call_len.or call_lenD, fun ds Q h H S vs Q' sh hd k => ?_⟩
  unfold gLen at h
  split at h
  · obtain ⟨v, rfl, hz⟩ := hd.one
    cases hz.s
    exact .inl ⟨_, _, rfl, ⟨h.1, rfl⟩, k _ _ H S h.2 (.refl sh) .i⟩
  · obtain ⟨v, rfl, hz⟩ := hd.one
    obtain ⟨a, ws, rfl, r, z⟩ := hz
    exact .inl ⟨_, _, rfl, .inl ⟨ws, .of r, rfl⟩, by rw [z.len]; exact k _ _ H S h (.refl sh) .i⟩
  · obtain ⟨v, rfl, hz⟩ := hd.one
    simp only [BDat, Dat] at hz
    obtain ⟨a, ws, rfl, r, z⟩ := hz
    exact .inl ⟨_, _, rfl, .inr ⟨ws, .of (sh _ _ r), rfl⟩, by rw [z.len]; exact k _ _ H S h (.refl sh) .i⟩
  · obtain ⟨v, rfl, hz⟩ := hd.one
    simp only [BDat, Dat] at hz
    obtain ⟨a, rfl, r⟩ := hz
    exact .inl ⟨_, _, rfl, .inl ⟨_, (by rw [hK]; exact sh.seq r), rfl⟩, by rw [List.length_map]; exact k _ _ H S h (.refl sh) .i⟩
  · obtain ⟨v, rfl, hz⟩ := hd.one
    obtain ⟨a, kvs, rfl, r, z1, z2⟩ := hz
    refine .inr ⟨a, kvs, rfl, r, ?_⟩
    have := z2.len
    rw [List.length_map] at this
    rw [this]
    exact k _ _ H S h (.refl sh) .i
  · exact h.elim
def gInt1 (f : Int → Int) : List D → (D → Prop) → Prop
  | [.int i], Q => Q (.int (f i))
  | _, _ => False
theorem cAbs : CalD X (.builtin "abs") (gInt1 fun i => if i < 0 then -i else i) := by
  refine ⟨_, call_abs, fun ds Q h H S vs Q' sh hd k => ?_⟩
  unfold gInt1 at h
  split at h
  · obtain ⟨v, rfl, hz⟩ := hd.one
    cases hz.i
    exact ⟨_, rfl, k _ _ H S h (.refl sh) .i⟩
  · exact h.elim
def gInt2 (f : Int → Int → Int) : List D → (D → Prop) → Prop
  | [.int i, .int j], Q => Q (.int (f i j))
  | _, _ => False
theorem cMax (hc : X.calm = true) : CalD X (.builtin "max") (gInt2 fun i j => if j > i then j else i) := by
  refine ⟨_, call_max2 hc, fun ds Q h H S vs Q' sh hd k => ?_⟩
  unfold gInt2 at h
  split at h
  · obtain ⟨v, v', rfl, h1, h2⟩ := hd.two
    cases h1.i
    cases h2.i
    exact ⟨_, _, rfl, k _ _ H S h (.refl sh) .i⟩
  · exact h.elim
theorem cMin (hc : X.calm = true) : CalD X (.builtin "min") (gInt2 fun i j => if j < i then j else i) := by
  refine ⟨_, call_min2 hc, fun ds Q h H S vs Q' sh hd k => ?_⟩
  unfold gInt2 at h
  split at h
  · obtain ⟨v, v', rfl, h1, h2⟩ := hd.two
    cases h1.i
    cases h2.i
    exact ⟨_, _, rfl, k _ _ H S h (.refl sh) .i⟩
  · exact h.elim
def gToInt : List D → (D → Prop) → Prop
  | [.int i], Q => Q (.int i)
  | [.bl b], Q => Q (.int (if b then 1 else 0))
  | _, _ => False
theorem cInt : CalD X (.type "int") gToInt := by
  refine ⟨_, call_int1, fun ds Q h H S vs Q' sh hd k => ?_⟩
  unfold gToInt at h
  split at h
  · obtain ⟨v, rfl, hz⟩ := hd.one
    cases hz.i
    exact .inl ⟨_, rfl, k _ _ H S h (.refl sh) .i⟩
  · obtain ⟨v, rfl, hz⟩ := hd.one
    cases hz.b
    exact .inr ⟨_, rfl, k _ _ H S h (.refl sh) .i⟩
  · exact h.elim
def gListF : List D → (List D → Prop) → Prop
  | [.lst xs], Q => Q xs
  | [.tup xs], Q => Q xs
  | [.scr ns], Q => Q (ns.map D.int)
  | _, _ => False
theorem cListF (hK : X.K = KC.K := by rfl) : CalF X (.type "list") gListF := by
  refine ⟨_, call_list_of, fun ds Q h H S vs Q' sh hd k => ?_⟩
  unfold gListF at h
  split at h
  · obtain ⟨v, rfl, hz⟩ := hd.one
    obtain ⟨a, ws, rfl, r, z⟩ := hz
    exact ⟨a, ws, rfl, .inl (.of r), fun l hl => k _ _ _ h hl z⟩
  · obtain ⟨v, rfl, hz⟩ := hd.one
    simp only [BDat, Dat] at hz
    obtain ⟨a, ws, rfl, r, z⟩ := hz
    exact ⟨a, ws, rfl, .inr (.of (sh _ _ r)), fun l hl => k _ _ _ h hl z⟩
  · obtain ⟨v, rfl, hz⟩ := hd.one
    simp only [BDat, Dat] at hz
    obtain ⟨a, rfl, r⟩ := hz
    exact ⟨a, _, rfl, .inl (by rw [hK]; exact sh.seq r), fun l hl => k _ _ _ h hl (Dats.ints _)⟩
  · exact h.elim

/-! ### isinstance of a built-in type -/
def tyName : D → Option String
  | .non => some "NoneType"
  | .bl _ => some "bool"
  | .int _ => some "int"
  | .str _ => some "str"
  | .lst _ => some "list"
  | .tup _ => some "tuple"
  | .dct _ _ => some "dict"
  | _ => none
theorem tyName_sound {H S : Hp} {d : D} {v : V} {K : PySem.W.Frag} {n : String} (sh : Same S H) (h : BDat H S d v) (e : tyName d = some n) : TyX K H v (.type n) := by
  cases d with
  | non => cases e; cases h.n; exact .base .non
  | bl b => cases e; cases h.b; exact .base (.bl b)
  | int i => cases e; cases h.i; exact .base (.int i)
  | str s => cases e; cases h.s; exact .base (.str s)
  | lst xs => cases e; obtain ⟨a, vs, rfl, r, _⟩ := h; exact .base (.lst r)
  | scr ns => cases e
  | tup xs =>
    cases e
    simp only [BDat, Dat] at h
    obtain ⟨a, vs, rfl, r, _⟩ := h
    exact .base (.tup (sh _ _ r))
  | dct ks xs => cases e; obtain ⟨a, vs, rfl, r, _⟩ := h; exact .base (.dK r)
  | ref a => cases e
def gIsT (T : String) (d : D) (Q : D → Prop) : Prop := ∃ n, tyName d = some n ∧ ∃ b, kitB n T = some b ∧ Q (.bl b)
def wIsT (T : String) (wa : WE) : WE := fun x ρ Q => wa x ρ fun d => gIsT T d Q
theorem ed_isT {T : String} {y : Str} {p2 : Pos} (hg : Gl X "isinstance") (hm : X.mg "isinstance" = none) (hgT : Gl X y) (hmT : X.mg y = none) (hvT : bootBuiltins y = some (.type T)) (ha : BD X E a wa)
    (hn : y ≠ "__name__" := by decide) (hd : (y == ("__debug__" : Str)) = false := by decide)
    (he : starEach (a :: [.Name y p2]) X.env = (false, eval a X.env) :: starEach [.Name y p2] X.env := by rfl) (he2 : starEach [.Name y p2] X.env = (false, eval (.Name y p2) X.env) :: starEach [] X.env := by rfl) (hpl : (backTo pos (starEach [.Name y p2] X.env)).any (·.1) = false := by rfl) :
    ED X E (.Call (.Name "isinstance" p) [a, .Name y p2] [] pos) (wIsT T wa) := by
  obtain ⟨t, pt, s⟩ := ha.ex
  have pT : PE X (.Name y p2) (tC (.ty T)) := pe_bltn hgT hmT hvT rfl hn hd
  refine ⟨_, pe_callB call_isi hg hm (by decide +kernel) (pa_cons pt (pa_cons pT pa_nil he2) he) (by decide) (by decide) he hpl, fun x ρ Q hw F σ H S Q' rp ex k => ?_⟩
  refine s x ρ _ hw F σ H S _ rp ex fun d u H1 S1 q1 g1 h1 => ?_
  obtain ⟨n, e1, b, e2, q⟩ := q1
  exact ⟨u, .ty T, .type n, .type T, b, rfl, .ty T, tyName_sound g1.sh h1 e1, kit_ty e2, k _ _ H1 S1 q g1 .b⟩

/-! ### a def's promise by data -/
inductive Rt where
  | val (d : D) | new (c : Cn) | newT (d : D)
/-- a new tuple; what it refers to is new, each but once -/
def FreshT (H S' : Hp) (v : V) : Prop := ∃ p vs, v = .ref p ∧ H p = none ∧ S' p = some (.tup vs) ∧ (∀ a, V.ref a ∈ vs → H a = none) ∧ ∀ (i j : Nat) (a : Addr), vs[i]? = some (V.ref a) → vs[j]? = some (V.ref a) → i = j
abbrev Spec := List D → XS → (Rt → Prop) → Prop
def RtP (H H' S' : Hp) : Rt → V → Prop
  | .val d, v => Dat S' d v
  | .new c, v => ∃ p o, v = .ref p ∧ H p = none ∧ S' p = none ∧ H' p = some o ∧ CnOk S' c o
  | .newT d, v => Dat S' d v ∧ FreshT H S' v
def spOf (mg : Str → Option Value) (sp : Spec) : Sp := fun vs H Q E => ∃ ds S x R, Same S H ∧ Dats S ds vs ∧ sp ds x R ∧
  (∀ r v H' S', R r → Grow H S H' S' → RtP H H' S' r v → Q v H') ∧ (∀ n C H' S', x n → mg n = some (.ref C) → Grow H S H' S' → E (.ref C) none H')
def Rt.d : Rt → D
  | .val d => d
  | .new c => c.d
  | .newT d => d
/-- a def is asked; what comes behind is not looked at -/
def Ask (sp : Spec) (ds : List D) (x : XS) (K : Rt → Prop) (_ : Tg K) : Prop := sp ds x K
def wCall (sp : Spec) (wl : WL) : WE := fun x ρ Q => wl x ρ fun ds => Ask sp ds x (fun r => Q r.d) ⟨⟩
theorem RtP.dat {H S H' S' : Hp} (g : Grow H S H' S') : ∀ {r : Rt} {v : V}, RtP H H' S' r v → ∃ S2, Grow H S H' S2 ∧ Dat S2 r.d v
  | .val d, v, h => ⟨S', g, h⟩
  | .newT d, v, h => ⟨S', g, h.1⟩
  | .new c, v, ⟨p, o, e, h0, h1, h2, h3⟩ => ⟨upd S' p o, g.share h0 h1 h2, by
      subst e
      exact CnOk.dat upd_same (h3.mono (same_upd h1))⟩
variable {k : Nat} {f : Addr} {fd : FuncData} {ps : List Str} {sp : Spec}
theorem ed_call (G : FnOk X.prog X.w X.K X.mg X.base (L2.CX X.prog X.w) k f fd ps (spOf X.mg sp)) (hr : Room k X.A) (xk : XOk X E) (hg : Gl X x) (hm : X.mg x = some (.ref f)) (hk : PySem.W.keepIn X.K (.ref f) = true) (hb : Binds X.K fd ps [])
    (ha : AD X E (e :: es) wl) (hdb : (x == ("__debug__" : Str)) = false := by decide) (he : starEach (e :: es) X.env = (false, eval e X.env) :: starEach es X.env := by rfl) (hpl : (backTo pos (starEach es X.env)).any (·.1) = false := by rfl) :
    ED X E (.Call (.Name x p) (e :: es) [] pos) (wCall sp wl) := by
  obtain ⟨t, pt, s⟩ := ha.ex
  refine ⟨_, pe_call G hr hg hm hk hb .nil xk.pass pt hdb he hpl, fun x ρ Q hw F σ H S Q' rp ex k => ?_⟩
  refine s x ρ _ hw F σ H S _ rp ex fun ds vs H1 S1 q1 g1 h1 => ?_
  refine ⟨ds, S1, x, _, g1.sh, by rw [List.append_nil]; exact h1, q1, fun r v H2 S2 q2 g2 h2 => ?_, fun n C H2 S2 xn hC g2 => ex n C H2 S2 xn hC (g1.trans g2)⟩
  obtain ⟨S3, g3, h3⟩ := h2.dat g2
  exact k _ _ H2 S3 q2 (g1.trans g3) h3
theorem ed_call0 (G : FnOk X.prog X.w X.K X.mg X.base (L2.CX X.prog X.w) k f fd ps (spOf X.mg sp)) (hr : Room k X.A) (xk : XOk X E) (hg : Gl X x) (hm : X.mg x = some (.ref f)) (hk : PySem.W.keepIn X.K (.ref f) = true) (hb : Binds X.K fd ps [])
    (hdb : (x == ("__debug__" : Str)) = false := by decide) : ED X E (.Call (.Name x p) [] [] pos) (wCall sp wNil) := by
  refine ⟨_, pe_call0 G hr hg hm hk hb .nil xk.pass hdb, fun x ρ Q hw F σ H S Q' rp ex k => ?_⟩
  refine ⟨[], S, x, _, rp.sh, .nil, hw, fun r v H2 S2 q2 g2 h2 => ?_, fun n C H2 S2 xn hC g2 => ex n C H2 S2 xn hC g2⟩
  obtain ⟨S3, g3, h3⟩ := h2.dat g2
  exact k _ _ H2 S3 q2 g3 h3
/-- a call whose result is a new list, nobody else's -/
def onNew (Q : List D → Prop) : Rt → Prop
  | .new (.lst xs) => Q xs
  | _ => False
def wCallF (sp : Spec) (wl : WL) : WL := fun x ρ Q => wl x ρ fun ds => Ask sp ds x (onNew Q) ⟨⟩
theorem df_call (G : FnOk X.prog X.w X.K X.mg X.base (L2.CX X.prog X.w) k f fd ps (spOf X.mg sp)) (hr : Room k X.A) (xk : XOk X E) (hg : Gl X x) (hm : X.mg x = some (.ref f)) (hk : PySem.W.keepIn X.K (.ref f) = true) (hb : Binds X.K fd ps [])
    (ha : AD X E (e :: es) wl) (hdb : (x == ("__debug__" : Str)) = false := by decide) (he : starEach (e :: es) X.env = (false, eval e X.env) :: starEach es X.env := by rfl) (hpl : (backTo pos (starEach es X.env)).any (·.1) = false := by rfl) :
    DF X E (.Call (.Name x p) (e :: es) [] pos) (wCallF sp wl) := by
  obtain ⟨t, pt, s⟩ := ha.ex
  refine ⟨_, pe_call G hr hg hm hk hb .nil xk.pass pt hdb he hpl, fun x ρ Q hw F σ H S Q' rp ex k => ?_⟩
  refine s x ρ _ hw F σ H S _ rp ex fun ds vs H1 S1 q1 g1 h1 => ?_
  refine ⟨ds, S1, x, _, g1.sh, by rw [List.append_nil]; exact h1, q1, fun r v H2 S2 q2 g2 h2 => ?_, fun n C H2 S2 xn hC g2 => ex n C H2 S2 xn hC (g1.trans g2)⟩
  cases r with
  | val d => exact q2.elim
  | newT d => exact q2.elim
  | new c =>
    cases c with
    | dct _ _ => exact q2.elim
    | lst xs =>
      obtain ⟨p, o, rfl, z0, z1, z2, ws, rfl, z3⟩ := h2
      exact k xs p ws H2 S2 q2 (g1.trans g2) (g1.freeH z0) z1 z2 z3
/-! a call with things that a slot owns: they are read, and none of them is in what comes back -/
mutual
def nl : D → Bool
  | .tup xs => nls xs
  | .lst _ => false
  | .dct _ _ => false
  | .scr _ => false
  | _ => true
def nls : List D → Bool
  | [] => true
  | x :: xs => nl x && nls xs
end
def tops : List V → Addr → Bool
  | [], _ => false
  | .ref p :: r, a => (p == a) || tops r a
  | _ :: r, a => tops r a
open Classical in
noncomputable def plusS (H S : Hp) (vs : List V) : Hp := fun a => if S a = none ∧ tops vs a = true ∧ ∃ o, H a = some o ∧ (∀ xs, o ≠ .tup xs) then H a else S a
open Classical in
noncomputable def minusS (H S S' : Hp) (vs : List V) : Hp := fun a => if S a = none ∧ tops vs a = true ∧ ∃ o, H a = some o ∧ (∀ xs, o ≠ .tup xs) then none else S' a
theorem plus_same {H S : Hp} {vs : List V} : Same S (plusS H S vs) := fun a o h => by
  unfold plusS
  rw [if_neg (fun z => by rw [z.1] at h; cases h)]
  exact h
theorem plus_sh {H S : Hp} {vs : List V} (sh : Same S H) : Same (plusS H S vs) H := fun a o h => by
  unfold plusS at h
  split at h
  · exact h
  · exact sh a o h
theorem plus_in {H S : Hp} {vs : List V} {p : Addr} {o : HO} (sh : Same S H) (h : H p = some o) (ht : tops vs p = true) (ho : ∀ xs, o ≠ .tup xs) : plusS H S vs p = some o := by
  unfold plusS
  by_cases c : S p = none
  · rw [if_pos ⟨c, ht, o, h, ho⟩]
    exact h
  · rw [if_neg (fun z => c z.1)]
    cases q : S p with
    | none => exact absurd q c
    | some u =>
      have := sh p u q
      rw [h] at this
      exact this.symm
theorem plus_dats {H S : Hp} (sh : Same S H) : ∀ {ds : List D} {vs ws : List V}, BDats H S ds vs → (∀ a, tops vs a = true → tops ws a = true) → Dats (plusS H S ws) ds vs
  | [], vs, ws, h, _ => by unfold BDats at h; subst h; exact .nil
  | d :: ds, vs, ws, ⟨v, r, e, h, q⟩, ht => by
    subst e
    refine .cons ?_ (plus_dats sh q fun a ha => ht a ?_)
    · cases d with
      | lst xs =>
        obtain ⟨a, us, rfl, ra, z⟩ := h
        exact .lstOf (plus_in sh ra (ht a (by simp [tops])) (fun _ z => by cases z)) (Dats.mono plus_same _ _ z)
      | dct ks xs =>
        obtain ⟨a, us, rfl, ra, z1, z2⟩ := h
        unfold Dat
        exact ⟨a, us, rfl, plus_in sh ra (ht a (by simp [tops])) (fun _ z => by cases z), z1, Dats.mono plus_same _ _ z2⟩
      | non => exact Dat.mono plus_same .non v h
      | bl b => exact Dat.mono plus_same (.bl b) v h
      | int b => exact Dat.mono plus_same (.int b) v h
      | str b => exact Dat.mono plus_same (.str b) v h
      | ref b => exact Dat.mono plus_same (.ref b) v h
      | scr b => exact Dat.mono plus_same (.scr b) v h
      | tup b => exact Dat.mono plus_same (.tup b) v h
    · cases v <;> simp_all [tops]
theorem minus_grow {H S H' S' : Hp} {vs : List V} (sh : Same S H) (g : Grow H (plusS H S vs) H' S') : Grow H S H' (minusS H S S' vs) := by
  refine ⟨g.hh, fun a o h => ?_, fun a o h => ?_, fun a ha => ?_⟩
  · unfold minusS
    rw [if_neg (fun z => by rw [z.1] at h; cases h)]
    exact g.ss a o (plus_same a o h)
  · unfold minusS at h
    split at h
    · cases h
    · exact g.sh a o h
  · unfold minusS
    split
    · rename_i z
      exact z.1.symm
    · rename_i z
      rw [g.nw a ha]
      unfold plusS
      rw [if_neg z]
mutual
theorem minus_dat {H S H' S' : Hp} {vs : List V} (g : Grow H (plusS H S vs) H' S') : ∀ (d : D) (v : V), nl d = true → Dat S' d v → Dat (minusS H S S' vs) d v
  | .non, v, _, h => by unfold Dat at h ⊢; exact h
  | .bl _, v, _, h => by unfold Dat at h ⊢; exact h
  | .int _, v, _, h => by unfold Dat at h ⊢; exact h
  | .str _, v, _, h => by unfold Dat at h ⊢; exact h
  | .ref _, v, _, h => by unfold Dat at h ⊢; exact h
  | .scr _, v, n, _ => by simp [nl] at n
  | .lst _, v, n, _ => by simp [nl] at n
  | .dct _ _, v, n, _ => by simp [nl] at n
  | .tup xs, v, n, h => by
    unfold Dat at h ⊢
    obtain ⟨a, ws, e, r, z⟩ := h
    refine ⟨a, ws, e, ?_, minus_dats g xs ws (by simpa [nl] using n) z⟩
    unfold minusS
    rw [if_neg]
    · exact r
    · rintro ⟨z1, z2, o, ho, hn⟩
      have e1 : plusS H S vs a = some o := by
        unfold plusS
        rw [if_pos ⟨z1, z2, o, ho, hn⟩]
        exact ho
      have e2 := g.ss a o e1
      rw [r] at e2
      cases e2
      exact hn ws rfl
theorem minus_dats {H S H' S' : Hp} {vs : List V} (g : Grow H (plusS H S vs) H' S') : ∀ (xs : List D) (ws : List V), nls xs = true → Dats S' xs ws → Dats (minusS H S S' vs) xs ws
  | [], _, _, h => by unfold Dats at h ⊢; exact h
  | x :: xs, _, n, h => by
    unfold Dats at h ⊢
    obtain ⟨v, r, e, h1, h2⟩ := h
    have n' : nl x = true ∧ nls xs = true := by simpa [nls] using n
    exact ⟨v, r, e, minus_dat g x v n'.1 h1, minus_dats g xs r n'.2 h2⟩
end
def nlR : Rt → Bool
  | .val d => nl d
  | .new (.lst xs) => nls xs
  | .new (.dct _ xs) => false
  | .newT d => nl d
theorem minus_rt {H S H' S' : Hp} {vs : List V} (g : Grow H (plusS H S vs) H' S') : ∀ {r : Rt} {v : V}, nlR r = true → RtP H H' S' r v → RtP H H' (minusS H S S' vs) r v
  | .val d, v, n, h => minus_dat g d v n h
  | .new (.dct _ _), v, n, _ => by cases n
  | .newT d, v, n, ⟨h, p, us, e, h0, h1, h2⟩ => ⟨minus_dat g d v n h, p, us, e, h0, by
      unfold minusS
      rw [if_neg (fun z => by
        obtain ⟨_, _, o, z, w⟩ := z
        have := g.sh p _ h1
        by_cases y : H p = none
        · rw [y] at z; cases z
        · exact y h0)]
      exact h1, h2⟩
  | .new (.lst xs), v, n, ⟨p, o, e, h0, h1, h2, ws, h3, h4⟩ => by
    refine ⟨p, o, e, h0, ?_, h2, ws, h3, minus_dats g xs ws n h4⟩
    unfold minusS
    split
    · rfl
    · exact h1
def wCallN (sp : Spec) (wl : WL) : WE := fun x ρ Q => wl x ρ fun ds => Ask sp ds x (fun r => nlR r = true ∧ Q r.d) ⟨⟩
def wCallNF (sp : Spec) (wl : WL) : WL := fun x ρ Q => wl x ρ fun ds => Ask sp ds x (onNew fun xs => nls xs = true ∧ Q xs) ⟨⟩
theorem ed_callN (G : FnOk X.prog X.w X.K X.mg X.base (L2.CX X.prog X.w) k f fd ps (spOf X.mg sp)) (hr : Room k X.A) (xk : XOk X E) (hg : Gl X x) (hm : X.mg x = some (.ref f)) (hk : PySem.W.keepIn X.K (.ref f) = true) (hb : Binds X.K fd ps [])
    (ha : AB X E (e :: es) wl) (hdb : (x == ("__debug__" : Str)) = false := by decide) (he : starEach (e :: es) X.env = (false, eval e X.env) :: starEach es X.env := by rfl) (hpl : (backTo pos (starEach es X.env)).any (·.1) = false := by rfl) :
    ED X E (.Call (.Name x p) (e :: es) [] pos) (wCallN sp wl) := by
  obtain ⟨t, pt, s⟩ := ha.ex
  refine ⟨_, pe_call G hr hg hm hk hb .nil xk.pass pt hdb he hpl, fun x ρ Q hw F σ H S Q' rp ex k => ?_⟩
  refine s x ρ _ hw F σ H S _ rp ex fun ds vs H1 S1 q1 g1 h1 => ?_
  refine ⟨ds, plusS H1 S1 vs, x, _, plus_sh g1.sh, by rw [List.append_nil]; exact plus_dats g1.sh h1 fun _ h => h, q1, fun r v H2 S2 q2 g2 h2 => ?_, fun n C H2 S2 xn hC g2 => ex n C H2 _ xn hC (g1.trans (minus_grow g1.sh g2))⟩
  obtain ⟨S3, g3, h3⟩ := (minus_rt g2 q2.1 h2).dat (minus_grow g1.sh g2)
  exact k _ _ H2 S3 q2.2 (g1.trans g3) h3
theorem df_callN (G : FnOk X.prog X.w X.K X.mg X.base (L2.CX X.prog X.w) k f fd ps (spOf X.mg sp)) (hr : Room k X.A) (xk : XOk X E) (hg : Gl X x) (hm : X.mg x = some (.ref f)) (hk : PySem.W.keepIn X.K (.ref f) = true) (hb : Binds X.K fd ps [])
    (ha : AB X E (e :: es) wl) (hdb : (x == ("__debug__" : Str)) = false := by decide) (he : starEach (e :: es) X.env = (false, eval e X.env) :: starEach es X.env := by rfl) (hpl : (backTo pos (starEach es X.env)).any (·.1) = false := by rfl) :
    DF X E (.Call (.Name x p) (e :: es) [] pos) (wCallNF sp wl) := by
  obtain ⟨t, pt, s⟩ := ha.ex
  refine ⟨_, pe_call G hr hg hm hk hb .nil xk.pass pt hdb he hpl, fun x ρ Q hw F σ H S Q' rp ex k => ?_⟩
  refine s x ρ _ hw F σ H S _ rp ex fun ds vs H1 S1 q1 g1 h1 => ?_
  refine ⟨ds, plusS H1 S1 vs, x, _, plus_sh g1.sh, by rw [List.append_nil]; exact plus_dats g1.sh h1 fun _ h => h, q1, fun r v H2 S2 q2 g2 h2 => ?_, fun n C H2 S2 xn hC g2 => ex n C H2 _ xn hC (g1.trans (minus_grow g1.sh g2))⟩
  cases r with
  | val d => exact q2.elim
  | newT d => exact q2.elim
  | new c =>
    cases c with
    | dct _ _ => exact q2.elim
    | lst xs =>
      obtain ⟨p, o, rfl, z0, z1, z2, ws, rfl, z3⟩ := minus_rt (r := .new (.lst xs)) g2 q2.1 h2
      exact k xs p ws H2 _ q2.2 (g1.trans (minus_grow g1.sh g2)) (g1.freeH z0) z1 z2 z3
end
end NL

namespace NL
open PySem PySem.Spec L2
open PyProof.Rows hiding St
variable [KC]

/-! ### the readings that a data word gives, in any context -/
def canE (mg : Str → Option Value) (E : XK) (w : WE) : TE := fun σ H Q' => ∃ (x : XS) (ρ : Ev) (Q : D → Prop) (F : Fr) (S : Hp), w x ρ Q ∧ Rep F ρ σ H S ∧ ExOk mg E x H S ∧ ∀ d v H' S', Q d → Grow H S H' S' → Dat S' d v → Q' v H'
def canT (mg : Str → Option Value) (E : XK) (w : WT) : TT := fun σ H Q' => ∃ (x : XS) (ρ : Ev) (Q : Bool → Prop) (F : Fr) (S : Hp), w x ρ Q ∧ Rep F ρ σ H S ∧ ExOk mg E x H S ∧ ∀ b H' S', Q b → Grow H S H' S' → Q' b H'
theorem ED.can {X : Cx} {E : XK} {e : Expr} {w : WE} (h : ED X E e w) : PE X e (canE X.mg E w) := by
  obtain ⟨t, p, s⟩ := h.ex
  refine ⟨fun pins st σ H Q I hq => ?_⟩
  obtain ⟨x, ρ, Q2, F, S, h1, h2, h3, h4⟩ := hq
  exact p.run pins st σ H Q I (s x ρ Q2 h1 F σ H S Q h2 h3 h4)
theorem TD.can {X : Cx} {E : XK} {e : Expr} {w : WT} (h : TD X E e w) : PT X e (canT X.mg E w) := by
  obtain ⟨t, p, s⟩ := h.ex
  refine ⟨fun pins st σ H Q I hq => ?_⟩
  obtain ⟨x, ρ, Q2, F, S, h1, h2, h3, h4⟩ := hq
  exact p.run pins st σ H Q I (s x ρ Q2 h1 F σ H S Q h2 h3 h4)

/-! ### targets -/
theorem wipe_get (σ : L2.St) (j : Nat) : ∀ vs : List Nat, (wipe σ vs)[j]? = if j ∈ vs then σ[j]?.map (fun _ => none) else σ[j]?
  | [] => by simp [wipe]
  | v :: vs => by
    have ih := wipe_get σ j vs
    unfold wipe
    by_cases h : v = j
    · subst h
      rw [List.getElem?_set, if_pos rfl, wipe_length, if_pos (show v ∈ v :: vs by simp)]
      by_cases hl : v < σ.length
      · rw [if_pos hl, List.getElem?_eq_getElem hl]; rfl
      · rw [if_neg hl, List.getElem?_eq_none (by omega)]; rfl
    · rw [List.getElem?_set_ne h, ih]
      have : (j ∈ v :: vs) ↔ j ∈ vs := by
        rw [List.mem_cons]
        exact ⟨fun z => z.elim (fun z => absurd z.symm h) id, .inr⟩
      simp only [this]
theorem wipe_set {σ : L2.St} {i : Nat} {x : Option V} {vs : List Nat} (h : i ∈ vs) : wipe (σ.set i x) vs = wipe σ vs := by
  apply List.ext_getElem?
  intro j
  rw [wipe_get, wipe_get]
  by_cases hj : j ∈ vs
  · rw [if_pos hj, if_pos hj]
    by_cases e : i = j
    · subst e
      rw [List.getElem?_set, if_pos rfl]
      by_cases hl : i < σ.length
      · rw [if_pos hl, List.getElem?_eq_getElem hl]; rfl
      · rw [if_neg hl, List.getElem?_eq_none (by omega)]
    · rw [List.getElem?_set_ne e]
  · rw [if_neg hj, if_neg hj, List.getElem?_set_ne (fun e => hj (by rw [← e]; exact h))]
theorem wipe_wipe {σ : L2.St} {vs : List Nat} : wipe (wipe σ vs) vs = wipe σ vs := by
  apply List.ext_getElem?
  intro j
  rw [wipe_get, wipe_get]
  by_cases hj : j ∈ vs
  · rw [if_pos hj, if_pos hj]
    cases σ[j]? <;> rfl
  · rw [if_neg hj, if_neg hj]
def wipeE (ρ : Ev) : List Nat → Ev
  | [] => ρ
  | v :: vs => (wipeE ρ vs).set v .un
theorem Rep.wipe {F : Fr} {ρ : Ev} {σ : L2.St} {H S : Hp} (r : Rep F ρ σ H S) : ∀ vs : List Nat, Rep F (wipeE ρ vs) (L2.wipe σ vs) H S
  | [] => r
  | v :: vs => (r.wipe vs).unset
abbrev WG := D → Ev → (Ev → Prop) → Prop
structure GD (X : Cx) (tg : Expr) (is : List Nat) (g : WG) : Prop where
  ex : ∃ t, PG X tg t ∧ ∀ (d : D) (ρ : Ev) (Q : Ev → Prop), g d ρ Q → ∀ (F : Fr) (σ : L2.St) (H S : Hp) (v : V) (Q' : L2.St → Hp → Prop), Rep F ρ σ H S → Dat S d v →
    (∀ ρ' σ', Q ρ' → Rep F ρ' σ' H S → (∀ vs : List Nat, (∀ i ∈ is, i ∈ vs) → wipe σ' vs = wipe σ vs) → Q' σ' H) → t v σ H Q'
abbrev WGs := List D → Ev → (Ev → Prop) → Prop
structure GDs (X : Cx) (tgs : List Expr) (is : List Nat) (g : WGs) : Prop where
  ex : ∃ t, PGs X tgs t ∧ ∀ (ds : List D) (ρ : Ev) (Q : Ev → Prop), g ds ρ Q → ∀ (F : Fr) (σ : L2.St) (H S : Hp) (vs : List V) (Q' : L2.St → Hp → Prop), Rep F ρ σ H S → Dats S ds vs →
    (∀ ρ' σ', Q ρ' → Rep F ρ' σ' H S → (∀ vs : List Nat, (∀ i ∈ is, i ∈ vs) → wipe σ' vs = wipe σ vs) → Q' σ' H) → t vs σ H Q'
def canG (g : WG) (is : List Nat) : TG := fun v σ H Q' => ∃ (d : D) (ρ : Ev) (Q : Ev → Prop) (F : Fr) (S : Hp), g d ρ Q ∧ Rep F ρ σ H S ∧ Dat S d v ∧ ∀ ρ' σ', Q ρ' → Rep F ρ' σ' H S → (∀ vs : List Nat, (∀ i ∈ is, i ∈ vs) → wipe σ' vs = wipe σ vs) → Q' σ' H
section
variable {X : Cx} {E : XK} {pos : Pos}
theorem GD.can {tg : Expr} {is : List Nat} {g : WG} (h : GD X tg is g) : PG X tg (canG g is) := by
  obtain ⟨t, p, s⟩ := h.ex
  refine ⟨fun pins st σ H v u Q I r hq => ?_⟩
  obtain ⟨d, ρ, Q2, F, S, h1, h2, h3, h4⟩ := hq
  exact p.run pins st σ H v u Q I r (s d ρ Q2 h1 F σ H S v Q h2 h3 h4)
def wgName (i : Nat) : WG := fun d ρ Q => Q (ρ.set i (.fz d))
theorem gd_name (i : Nat) {x : Str} (hN : X.N.Nodup) (hi : X.N[i]? = some x := by rfl) (hx : Loc X.env.scope x := by first | exact Or.inl rfl | exact Or.inr rfl) (hf : X.fn x = true ∨ X.env.scope.names.lookup x = some .local := by first | exact .inl rfl | exact .inr rfl) : GD X (.Name x pos) [i] (wgName i) :=
  ⟨_, pg_name hN hi hx hf, fun d ρ Q hw F σ H S v Q' rp hd k => k _ _ hw (rp.set hd) fun vs h => wipe_set (h i (by simp))⟩
def wgNil : WGs := fun ds ρ Q => match ds with
  | [] => Q ρ
  | _ => False
def wgCons (g : WG) (gs : WGs) : WGs := fun ds ρ Q => match ds with
  | d :: r => g d ρ fun ρ1 => gs r ρ1 Q
  | _ => False
theorem gds_nil : GDs X [] [] wgNil := by
  refine ⟨_, pgs_nil, fun ds ρ Q hw F σ H S vs Q' rp hd k => ?_⟩
  cases ds with
  | nil =>
    unfold Dats at hd
    exact ⟨hd, k _ _ hw rp fun _ _ => rfl⟩
  | cons _ _ => exact hw.elim
theorem gds_cons {e : Expr} {es : List Expr} {is js : List Nat} {g : WG} {gs : WGs} (h1 : GD X e is g) (h2 : GDs X es js gs)
    (hs : (assignEach (e :: es) X.env).map (·.2) = assign e X.env :: (assignEach es X.env).map (·.2) := by rfl) : GDs X (e :: es) (is ++ js) (wgCons g gs) := by
  obtain ⟨t, p, s⟩ := h1.ex
  obtain ⟨t', p', s'⟩ := h2.ex
  refine ⟨_, pgs_cons p p' hs, fun ds ρ Q hw F σ H S vs Q' rp hd k => ?_⟩
  cases ds with
  | nil => exact hw.elim
  | cons d r =>
    unfold Dats at hd
    obtain ⟨v, ws, e, q1, q2⟩ := hd
    refine ⟨v, ws, e, s d ρ _ hw F σ H S v _ rp q1 fun ρ1 σ1 h1 r1 w1 => s' r ρ1 _ h1 F σ1 H S ws _ r1 q2 fun ρ2 σ2 h2 r2 w2 => k _ _ h2 r2 fun vs hv => ?_⟩
    rw [w2 vs (fun i hi => hv i (List.mem_append_right _ hi)), w1 vs (fun i hi => hv i (List.mem_append_left _ hi))]
def wgTup (n : Nat) (gs : WGs) : WG := fun d ρ Q => match d with
  | .tup ds => ds.length = n ∧ gs ds ρ Q
  | _ => False
theorem gd_tup {es : List Expr} {k : Nat} {is : List Nat} {gs : WGs} {n : Nat} (hc : X.calm = true) (h : GDs X es is gs) (hn : (assignEach es X.env).length = n := by rfl) (hst : (assignEach es X.env).findIdx? (·.1) = none := by rfl) :
    GD X (.Tuple es k pos) is (wgTup n gs) := by
  obtain ⟨t, p, s⟩ := h.ex
  refine ⟨_, pg_tup hc p hn hst, fun d ρ Q hw F σ H S v Q' rp hd k => ?_⟩
  cases d with
  | tup ds =>
    unfold Dat at hd
    obtain ⟨a, vs, rfl, r, q⟩ := hd
    exact ⟨a, vs, rfl, .of (rp.sh _ _ r), by rw [q.len]; exact hw.1, s ds ρ _ hw.2 F σ H S vs _ rp q k⟩
  | _ => exact hw.elim

/-! ### what is walked -/
def ItOk (J : It) (S0 : Hp) (ds : List D) : Prop := ∀ (i : Nat) (H S : Hp), Same S0 S → Same S H →
  (∀ d, ds[i]? = some d → J.go i H ∧ ∀ x H', J.yld i H x H' → ∃ S', Grow H S H' S' ∧ Dat S' d x) ∧ (ds.length ≤ i → J.stop i H)
structure ID (X : Cx) (E : XK) (tg iter : Expr) (w : WL) : Prop where
  ex : ∃ wi, PI X tg iter wi ∧ ∀ (x : XS) (ρ : Ev) (Q : List D → Prop), w x ρ Q → ∀ (F : Fr) (σ : L2.St) (H S : Hp) (R : It → Hp → Prop), Rep F ρ σ H S → ExOk X.mg E x H S →
    (∀ ds J H' S', Q ds → Grow H S H' S' → ItOk J S' ds → R J H') → wi σ H R
theorem sql_inj {K : PySem.W.Frag} : True := trivial
/-- a shared list, by its items -/
theorem it_list {K : PySem.W.Frag} {S0 : Hp} {a : Addr} {vs : List V} {ds : List D} (h : ∀ H, Same S0 H → SqL K H a vs) (q : Dats S0 ds vs) : ItOk (Itl K a) S0 ds := fun i H S e1 e2 => by
  have hs : SqL K H a vs := h H (e1.trans e2)
  refine ⟨fun d hd => ?_, fun hl => ⟨vs, hs, by rw [q.len]; exact hl⟩⟩
  obtain ⟨v, hv, hz⟩ := q.get hd
  refine ⟨⟨vs, v, hs, hv⟩, fun x H' y => ?_⟩
  obtain ⟨e, y⟩ := y
  subst e
  have := y vs hs
  rw [hv] at this
  cases this
  exact ⟨S, .refl e2, Dat.mono e1 _ _ hz⟩
def wSeq (wa : WE) : WL := fun x ρ Q => wa x ρ fun d => match d with
  | .lst xs => Q xs
  | .scr ns => Q (ns.map D.int)
  | _ => False
variable {e a b : Expr} {w wa wb wc : WE} {tg : Expr} {p : Pos}
theorem id_list (ha : ED X E a wa) (hK : X.K = KC.K := by rfl) : ID X E tg a (wSeq wa) := by
  obtain ⟨t, pt, s⟩ := ha.ex
  refine ⟨_, pi_list pt, fun x ρ Q hw F σ H S R rp ex k => ?_⟩
  refine s x ρ _ hw F σ H S _ rp ex fun d u H1 S1 q1 g1 h1 => ?_
  cases d with
  | lst xs =>
    unfold Dat at h1
    obtain ⟨a, vs, rfl, r, z⟩ := h1
    exact ⟨a, rfl, ⟨vs, .of (g1.sh _ _ r)⟩, k xs _ H1 S1 q1 g1 (it_list (fun H e => .of (e _ _ r)) z)⟩
  | scr ns =>
    unfold Dat at h1
    obtain ⟨a, rfl, r⟩ := h1
    exact ⟨a, rfl, ⟨_, by rw [hK]; exact g1.sh.seq r⟩, k _ _ H1 S1 q1 g1 (it_list (fun H e => by rw [hK]; exact e.seq r) (Dats.ints ns))⟩
  | _ => exact q1.elim
def wSeqT (wa : WE) : WL := fun x ρ Q => wa x ρ fun d => match d with
  | .tup xs => Q xs
  | _ => False
theorem id_tup (ha : ED X E a wa) : ID X E tg a (wSeqT wa) := by
  obtain ⟨t, pt, s⟩ := ha.ex
  refine ⟨_, pi_tup pt, fun x ρ Q hw F σ H S R rp ex k => ?_⟩
  refine s x ρ _ hw F σ H S _ rp ex fun d u H1 S1 q1 g1 h1 => ?_
  cases d with
  | tup xs =>
    unfold Dat at h1
    obtain ⟨a, vs, rfl, r, z⟩ := h1
    refine ⟨a, rfl, ⟨vs, .of (g1.sh _ _ r)⟩, k xs _ H1 S1 q1 g1 fun i H S e1 e2 => ?_⟩
    have hs : SqT X.K H a vs := .of (e2 _ _ (e1 _ _ r))
    refine ⟨fun d hd => ?_, fun hl => ⟨vs, hs, by rw [z.len]; exact hl⟩⟩
    obtain ⟨v, hv, hz⟩ := z.get hd
    refine ⟨⟨vs, v, hs, hv⟩, fun x H' y => ?_⟩
    obtain ⟨e, y⟩ := y
    subst e
    have := y vs hs
    rw [hv] at this
    cases this
    exact ⟨S, .refl e2, Dat.mono e1 _ _ hz⟩
  | _ => exact q1.elim
def signs (z : Str) : List D := z.cps.toList.map fun c => .str ⟨#[c]⟩
def wSigns (wa : WE) : WL := fun x ρ Q => wa x ρ fun d => match d with
  | .str z => Q (signs z)
  | _ => False
theorem id_str (ha : ED X E a wa) : ID X E tg a (wSigns wa) := by
  obtain ⟨t, pt, s⟩ := ha.ex
  refine ⟨_, pi_str pt, fun x ρ Q hw F σ H S R rp ex k => ?_⟩
  refine s x ρ _ hw F σ H S _ rp ex fun d u H1 S1 q1 g1 h1 => ?_
  cases d with
  | str z =>
    unfold Dat at h1
    refine ⟨z, h1, k _ _ H1 S1 q1 g1 fun i H S e1 e2 => ⟨fun d hd => ?_, fun hl => ?_⟩⟩
    · unfold signs at hd
      rw [List.getElem?_map] at hd
      cases q : z.cps.toList[i]? with
      | none => rw [q] at hd; cases hd
      | some c =>
        rw [q] at hd
        cases hd
        have hi : i < z.cps.size := by
          rcases Nat.lt_or_ge i z.cps.size with h | h
          · exact h
          · rw [List.getElem?_eq_none (by simpa using h)] at q; cases q
        refine ⟨hi, fun x H' y => ?_⟩
        obtain ⟨e, c', hc, y⟩ := y
        subst e
        subst y
        rw [← Array.getElem?_toList, q] at hc
        cases hc
        exact ⟨S, .refl e2, .s⟩
    · unfold signs at hl
      rw [List.length_map] at hl
      exact hl
  | _ => exact q1.elim
/-- lo, lo + c, .. so many -/
def rngD (lo c : Int) (n : Nat) : List D := (List.range n).map fun (i : Nat) => .int (lo + (i : Int) * c)
theorem it_rng {S0 : Hp} {lo : Int} {n : Nat} : ItOk (Itr lo n) S0 (rngD lo 1 n) := fun i H S e1 e2 => by
  refine ⟨fun d hd => ?_, fun hl => by unfold rngD at hl; rw [List.length_map, List.length_range] at hl; exact hl⟩
  unfold rngD at hd
  rw [List.getElem?_map] at hd
  cases q : (List.range n)[i]? with
  | none => rw [q] at hd; cases hd
  | some j =>
    rw [q] at hd
    cases hd
    obtain ⟨hi, hj⟩ := List.getElem?_eq_some_iff.mp q
    simp at hi hj
    subst hj
    refine ⟨hi, fun x H' y => ?_⟩
    obtain ⟨e, y⟩ := y
    subst e y
    exact ⟨S, .refl e2, by show Dat S (.int (lo + (i : Int) * 1)) _; rw [Int.mul_one]; exact .i⟩
theorem it_rngC {S0 : Hp} {lo c : Int} {n : Nat} : ItOk (Itc lo c n) S0 (rngD lo c n) := fun i H S e1 e2 => by
  refine ⟨fun d hd => ?_, fun hl => by unfold rngD at hl; rw [List.length_map, List.length_range] at hl; exact hl⟩
  unfold rngD at hd
  rw [List.getElem?_map] at hd
  cases q : (List.range n)[i]? with
  | none => rw [q] at hd; cases hd
  | some j =>
    rw [q] at hd
    cases hd
    obtain ⟨hi, hj⟩ := List.getElem?_eq_some_iff.mp q
    simp at hi hj
    subst hj
    refine ⟨hi, fun x H' y => ?_⟩
    obtain ⟨e, y⟩ := y
    subst e y
    exact ⟨S, .refl e2, .i⟩
def smallI (i : Int) : Prop := -(2 ^ 62) ≤ i ∧ i < 2 ^ 62
def wRng1 (wa : WE) : WL := fun x ρ Q => wa x ρ fun d => match d with
  | .int n => smallI n ∧ Q (rngD 0 1 n.toNat)
  | _ => False
theorem id_range1 (hg : Gl X "range") (hm : X.mg "range" = none) (ha : ED X E a wa) (hs : starEach [a] X.env = [(false, eval a X.env)] := by rfl) (he : starEach (a :: []) X.env = (false, eval a X.env) :: starEach [] X.env := by rfl) :
    ID X E tg (.Call (.Name "range" p) [a] [] pos) (wRng1 wa) := by
  obtain ⟨t, pt, s⟩ := (ad_cons ha ad_nil he).ex
  refine ⟨_, pi_range1 hg hm pt hs, fun x ρ Q hw F σ H S R rp ex k => ?_⟩
  refine s x ρ (fun ds => match ds with
    | [d] => match d with
      | .int n => smallI n ∧ Q (rngD 0 1 n.toNat)
      | _ => False
    | _ => False) ?_ F σ H S _ rp ex fun ds vs H1 S1 q1 g1 h1 => ?_
  · exact hw
  · split at q1
    · split at q1
      · unfold Dats Dats Dat at h1
        obtain ⟨_, _, rfl, rfl, rfl⟩ := h1
        exact ⟨_, rfl, q1.1.1, q1.1.2, k _ _ H1 S1 q1.2 g1 it_rng⟩
      · exact q1.elim
    · exact q1.elim
def wRng2 (wa wb : WE) : WL := fun x ρ Q => wa x ρ fun d => wb x ρ fun e => match d, e with
  | .int i, .int j => smallI i ∧ smallI j ∧ Q (rngD i 1 (j - i).toNat)
  | _, _ => False
theorem id_range2 (hg : Gl X "range") (hm : X.mg "range" = none) (ha : ED X E a wa) (hb : ED X E b wb) (hs : starEach [a, b] X.env = [(false, eval a X.env), (false, eval b X.env)] := by rfl) (hs2 : starEach [b] X.env = [(false, eval b X.env)] := by rfl)
    (he : starEach (a :: [b]) X.env = (false, eval a X.env) :: starEach [b] X.env := by rfl) (he2 : starEach (b :: []) X.env = (false, eval b X.env) :: starEach [] X.env := by rfl) :
    ID X E tg (.Call (.Name "range" p) [a, b] [] pos) (wRng2 wa wb) := by
  obtain ⟨t, pt, s⟩ := (ad_cons ha (ad_cons hb ad_nil he2) he).ex
  refine ⟨_, pi_range2 hg hm pt hs hs2, fun x ρ Q hw F σ H S R rp ex k => ?_⟩
  refine s x ρ (fun ds => match ds with
    | [d, e] => match d, e with
      | .int i, .int j => smallI i ∧ smallI j ∧ Q (rngD i 1 (j - i).toNat)
      | _, _ => False
    | _ => False) ?_ F σ H S _ rp ex fun ds vs H1 S1 q1 g1 h1 => ?_
  · exact hw
  · split at q1
    · split at q1
      · unfold Dats Dats Dats Dat at h1
        obtain ⟨_, _, rfl, rfl, _, _, rfl, rfl, rfl⟩ := h1
        exact ⟨_, _, rfl, ⟨q1.1.1, q1.1.2, q1.2.1.1, q1.2.1.2⟩, k _ _ H1 S1 q1.2.2 g1 it_rng⟩
      · exact q1.elim
    · exact q1.elim
def wRng3 (wa wb wc : WE) : WL := fun x ρ Q => wa x ρ fun d => wb x ρ fun e => wc x ρ fun f => match d, e, f with
  | .int i, .int j, .int l => ∃ n, RgC i j l n ∧ Q (rngD i l n)
  | _, _, _ => False
theorem id_range3 {c : Expr} (hg : Gl X "range") (hm : X.mg "range" = none) (ha : ED X E a wa) (hb : ED X E b wb) (hc : ED X E c wc) (hs : starEach [a, b, c] X.env = (false, eval a X.env) :: starEach [b, c] X.env := by rfl) (hpl : (backTo pos (starEach [b, c] X.env)).any (·.1) = false := by rfl)
    (he : starEach (a :: [b, c]) X.env = (false, eval a X.env) :: starEach [b, c] X.env := by rfl) (he2 : starEach (b :: [c]) X.env = (false, eval b X.env) :: starEach [c] X.env := by rfl) (he3 : starEach (c :: []) X.env = (false, eval c X.env) :: starEach [] X.env := by rfl) :
    ID X E tg (.Call (.Name "range" p) [a, b, c] [] pos) (wRng3 wa wb wc) := by
  obtain ⟨t, pt, s⟩ := (ad_cons ha (ad_cons hb (ad_cons hc ad_nil he3) he2) he).ex
  refine ⟨_, pi_range3 hg hm pt hs hpl, fun x ρ Q hw F σ H S R rp ex k => ?_⟩
  refine s x ρ (fun ds => match ds with
    | [d, e, f] => match d, e, f with
      | .int i, .int j, .int l => ∃ n, RgC i j l n ∧ Q (rngD i l n)
      | _, _, _ => False
    | _ => False) ?_ F σ H S _ rp ex fun ds vs H1 S1 q1 g1 h1 => ?_
  · exact hw
  · split at q1
    · split at q1
      · unfold Dats Dats Dats Dats Dat at h1
        obtain ⟨_, _, rfl, rfl, _, _, rfl, rfl, _, _, rfl, rfl, rfl⟩ := h1
        obtain ⟨n, q2, q3⟩ := q1
        exact ⟨_, _, _, n, rfl, q2, k _ _ H1 S1 q3 g1 it_rngC⟩
      · exact q1.elim
    · exact q1.elim
def wRev (wa : WE) : WL := fun x ρ Q => wa x ρ fun d => match d with
  | .lst xs => Q xs.reverse
  | _ => False
theorem id_rev (hg : Gl X "reversed") (hm : X.mg "reversed" = none) (ha : ED X E a wa) (hs : starEach [a] X.env = [(false, eval a X.env)] := by rfl) (he : starEach (a :: []) X.env = (false, eval a X.env) :: starEach [] X.env := by rfl) :
    ID X E tg (.Call (.Name "reversed" p) [a] [] pos) (wRev wa) := by
  obtain ⟨t, pt, s⟩ := (ad_cons ha ad_nil he).ex
  refine ⟨_, pi_reversed hg hm pt hs, fun x ρ Q hw F σ H S R rp ex k => ?_⟩
  refine s x ρ (fun ds => match ds with
    | [d] => match d with
      | .lst xs => Q xs.reverse
      | _ => False
    | _ => False) ?_ F σ H S _ rp ex fun ds vs H1 S1 q1 g1 h1 => ?_
  · exact hw
  · split at q1
    · split at q1
      · rename_i xs
        unfold Dats Dats Dat at h1
        obtain ⟨_, _, rfl, ⟨a, vs, rfl, r, z⟩, rfl⟩ := h1
        refine ⟨a, vs, rfl, .of (g1.sh _ _ r), k _ _ H1 S1 q1 g1 fun i H S e1 e2 => ?_⟩
        have hs : SqL X.K H a vs := .of (e2 _ _ (e1 _ _ r))
        have zl := z.len
        refine ⟨fun d hd => ?_, fun hl => by rw [List.length_reverse] at hl; show vs.length ≤ i; omega⟩
        have hi : i < xs.length := by
          rcases Nat.lt_or_ge i xs.length with h | h
          · exact h
          · rw [List.getElem?_eq_none (by simpa using h)] at hd; cases hd
        rw [List.getElem?_reverse hi] at hd
        obtain ⟨v, hv, hz⟩ := z.get hd
        rw [← zl] at hv
        refine ⟨⟨by rw [zl]; exact hi, vs, v, hs, hv⟩, fun x H' y => ?_⟩
        obtain ⟨e, y⟩ := y
        subst e
        have := y vs hs
        rw [hv] at this
        cases this
        exact ⟨S, .refl e2, Dat.mono e1 _ _ hz⟩
      · exact q1.elim
    · exact q1.elim
def pairs (xs ys : List D) : List D := (xs.zip ys).map fun p => .tup [p.1, p.2]
def numbered (xs : List D) : List D := (List.range xs.length).zip xs |>.map fun p => .tup [.int (p.1 : Nat), p.2]
def wEnum (wa : WE) : WL := fun x ρ Q => wa x ρ fun d => match d with
  | .lst xs => Q (numbered xs)
  | _ => False
theorem id_enum {elts : List Expr} {kk : Nat} {tpos : Pos} (hg : Gl X "enumerate") (hm : X.mg "enumerate" = none) (ha : ED X E a wa) (hs : starEach [a] X.env = [(false, eval a X.env)] := by rfl) (he : starEach (a :: []) X.env = (false, eval a X.env) :: starEach [] X.env := by rfl) :
    ID X E (.Tuple elts kk tpos) (.Call (.Name "enumerate" p) [a] [] pos) (wEnum wa) := by
  obtain ⟨t, pt, s⟩ := (ad_cons ha ad_nil he).ex
  refine ⟨_, pi_enum hg hm pt hs, fun x ρ Q hw F σ H S R rp ex k => ?_⟩
  refine s x ρ (fun ds => match ds with
    | [d] => match d with
      | .lst xs => Q (numbered xs)
      | _ => False
    | _ => False) ?_ F σ H S _ rp ex fun ds vs H1 S1 q1 g1 h1 => ?_
  · exact hw
  · split at q1
    · split at q1
      · rename_i xs
        unfold Dats Dats Dat at h1
        obtain ⟨_, _, rfl, ⟨a, vs, rfl, r, z⟩, rfl⟩ := h1
        refine ⟨a, vs, rfl, .of (g1.sh _ _ r), k _ _ H1 S1 q1 g1 fun i H S e1 e2 => ?_⟩
        have hs : SqL X.K H a vs := .of (e2 _ _ (e1 _ _ r))
        have zl := z.len
        refine ⟨fun d hd => ?_, fun hl => ⟨vs, hs, by unfold numbered at hl; simp at hl; omega⟩⟩
        unfold numbered at hd
        rw [List.getElem?_map] at hd
        cases q : ((List.range xs.length).zip xs)[i]? with
        | none => rw [q] at hd; cases hd
        | some pr =>
          rw [q] at hd
          cases hd
          obtain ⟨pn, pd⟩ := pr
          obtain ⟨q2, q3⟩ := List.getElem?_zip_eq_some.mp q
          obtain ⟨hi, hj⟩ := List.getElem?_eq_some_iff.mp q2
          simp at hi hj
          subst hj
          obtain ⟨v, hv, hz⟩ := z.get q3
          refine ⟨⟨vs, v, hs, hv⟩, fun x H' y => ?_⟩
          obtain ⟨T, y1, rfl, hT, rfl, y⟩ := y
          have := y vs hs
          rw [hv] at this
          cases this
          obtain ⟨g, dd⟩ := lay_tup e2 hT (.cons (.i (i := (i : Nat))) (.one (Dat.mono e1 _ _ hz)))
          exact ⟨_, g, dd⟩
      · exact q1.elim
    · exact q1.elim
def wZip (wa wb : WE) : WL := fun x ρ Q => wa x ρ fun d => wb x ρ fun e => match d, e with
  | .lst xs, .lst ys => Q (pairs xs ys)
  | _, _ => False
theorem id_zip {elts : List Expr} {kk : Nat} {tpos : Pos} (hg : Gl X "zip") (hm : X.mg "zip" = none) (ha : ED X E a wa) (hb : ED X E b wb)
    (hs : starEach [a, b] X.env = (false, eval a X.env) :: starEach [b] X.env := by rfl) (hpl : (backTo pos (starEach [b] X.env)).any (·.1) = false := by rfl) (he2 : starEach (b :: []) X.env = (false, eval b X.env) :: starEach [] X.env := by rfl) :
    ID X E (.Tuple elts kk tpos) (.Call (.Name "zip" p) [a, b] [] pos) (wZip wa wb) := by
  obtain ⟨t, pt, s⟩ := (ad_cons ha (ad_cons hb ad_nil he2) hs).ex
  refine ⟨_, pi_zip hg hm pt hs hpl, fun x ρ Q hw F σ H S R rp ex k => ?_⟩
  refine s x ρ (fun ds => match ds with
    | [d, e] => match d, e with
      | .lst xs, .lst ys => Q (pairs xs ys)
      | _, _ => False
    | _ => False) ?_ F σ H S _ rp ex fun ds vs H1 S1 q1 g1 h1 => ?_
  · exact hw
  · split at q1
    · split at q1
      · rename_i xs ys
        unfold Dats Dats Dats Dat at h1
        obtain ⟨_, _, rfl, ⟨a, vs, rfl, r, z⟩, _, _, rfl, ⟨b, us, rfl, r', z'⟩, rfl⟩ := h1
        refine ⟨a, b, vs, us, rfl, .of (g1.sh _ _ r), .of (g1.sh _ _ r'), k _ _ H1 S1 q1 g1 fun i H S e1 e2 => ?_⟩
        have hs : SqL X.K H a vs := .of (e2 _ _ (e1 _ _ r))
        have hs' : SqL X.K H b us := .of (e2 _ _ (e1 _ _ r'))
        have zl := z.len
        have zl' := z'.len
        refine ⟨fun d hd => ?_, fun hl => ⟨vs, us, hs, hs', by unfold pairs at hl; simp at hl; omega⟩⟩
        unfold pairs at hd
        rw [List.getElem?_map] at hd
        cases q : (xs.zip ys)[i]? with
        | none => rw [q] at hd; cases hd
        | some pr =>
          rw [q] at hd
          cases hd
          obtain ⟨q1, q2⟩ := List.getElem?_zip_eq_some.mp q
          obtain ⟨v, hv, hz⟩ := z.get q1
          obtain ⟨u, hu, hz'⟩ := z'.get q2
          refine ⟨⟨vs, us, v, u, hs, hs', hv, hu⟩, fun x H' y => ?_⟩
          obtain ⟨T, y1, y2, rfl, hT, rfl, y, y'⟩ := y
          have e3 := y vs hs
          rw [hv] at e3
          cases e3
          have e4 := y' us hs'
          rw [hu] at e4
          cases e4
          obtain ⟨g, dd⟩ := lay_tup e2 hT (.cons (Dat.mono e1 _ _ hz) (.one (Dat.mono e1 _ _ hz')))
          exact ⟨_, g, dd⟩
      · exact q1.elim
    · exact q1.elim

/-! ### list comprehensions -/
abbrev X0 : XS := fun _ => False
def compL (g : WG) (wt : WT) (we : WE) (ρ : Ev) (Q : List D → Prop) : List D → List D → Prop
  | [], acc => Q acc
  | d :: ds, acc => g d ρ fun ρ2 => wt X0 ρ2 fun b => Br b (we X0 ρ2 fun y => acc.length < sizeLine ∧ compL g wt we ρ Q ds (acc ++ [y])) (compL g wt we ρ Q ds acc) ⟨⟩ ⟨⟩
def wLc (wi : WL) (g : WG) (wt : WT) (we : WE) (vs : List Nat) : WL := fun x ρ Q => wi x ρ fun ds => compL g wt we (wipeE ρ vs) Q ds []
theorem exOk0 {mg : Str → Option Value} {H S : Hp} : ExOk mg E0 X0 H S := fun _ _ _ _ h => h.elim
/-- the loop, for whatever its tests are -/
theorem lc_sound {mg : Str → Option Value} {J : It} {g : WG} {is : List Nat} {wt : WT} {tt : TT} {we : WE} {vs : List Nat} {F : Fr} {ρ : Ev} {σ : L2.St} {H0 S0 H1 S1 : Hp} {ds : List D} {Q : List D → Prop} {Q' : VK} {D0 : Addr}
    (his : ∀ i ∈ is, i ∈ vs) (rp : Rep F ρ σ H0 S0) (g1 : Grow H0 S0 H1 S1) (hJ : ItOk J S1 ds) (hD : H1 D0 = none) (hw : compL g wt we (wipeE ρ vs) Q ds [])
    (ht : ∀ (ρ2 : Ev) (σ2 : L2.St) (H S : Hp) (R : Bool → Prop) (R' : Bool → Hp → Prop), wt X0 ρ2 R → Rep F ρ2 σ2 H S → (∀ b H' S', R b → Grow H S H' S' → R' b H') → tt σ2 H R')
    (k : ∀ xs ws H' S', Q xs → Grow H0 S0 H' S' → H0 D0 = none → S' D0 = none → H' D0 = some (.lst ws) → Dats S' xs ws → Q' (.ref D0) H') :
    ∃ W : Nat → Nat → Hp → Prop, (∃ m, W 0 m (upd H1 D0 (.lst []))) ∧ ∀ i m H, W i m H →
      (J.stop i H ∧ Q' (.ref D0) H) ∨ (J.go i H ∧ ∃ Nx : Hp → Prop, (∀ H', Nx H' → ∃ m', m' < m ∧ W (i + 1) m' H') ∧ ∀ x H', J.yld i H x H' → canG g is x (wipe σ vs) H' fun σ2 H2 => wipe σ2 vs = wipe σ vs ∧ tt σ2 H2 fun b H3 =>
        if b = true then canE mg E0 we σ2 H3 fun y H4 => ∃ acc, H4 D0 = some (.lst acc) ∧ acc.length < sizeLine ∧ Nx (upd H4 D0 (.lst (acc ++ [y]))) else Nx H3) := by
  have hD0 : H0 D0 = none := g1.freeH hD
  let W : Nat → Nat → Hp → Prop := fun i m H => m = ds.length - i ∧ i ≤ ds.length ∧ ∃ S acc ws, Grow H0 S0 H S ∧ Same S1 S ∧ H D0 = some (.lst ws) ∧ S D0 = none ∧ Dats S acc ws ∧ compL g wt we (wipeE ρ vs) Q (ds.drop i) acc
  refine ⟨W, ⟨ds.length, by simp, Nat.zero_le _, S1, [], [], g1.lay hD, .refl _, upd_same, g1.freeS hD, .nil, hw⟩, ?_⟩
  rintro i m H ⟨rfl, hi, S, acc, ws, gg, ss, hH, hS, hd, hc⟩
  rcases Nat.lt_or_ge i ds.length with hlt | hge
  · obtain ⟨d, hdi⟩ : ∃ d, ds[i]? = some d := ⟨_, List.getElem?_eq_getElem hlt⟩
    obtain ⟨go, yl⟩ := (hJ i H S ss gg.sh).1 d hdi
    have hdrop : ds.drop i = d :: ds.drop (i + 1) := by
      rw [List.drop_eq_getElem_cons hlt]
      congr 1
      rw [List.getElem?_eq_getElem hlt] at hdi
      exact Option.some.inj hdi
    rw [hdrop] at hc
    refine .inr ⟨go, fun H' => W (i + 1) (ds.length - (i + 1)) H', fun H' h => ⟨_, by omega, h⟩, fun x H' y => ?_⟩
    obtain ⟨S', g', dx⟩ := yl x H' y
    refine ⟨d, wipeE ρ vs, _, F, S', hc, ((rp.grow gg).grow g').wipe vs, dx, fun ρ2 σ2 h2 r2 w2 => ⟨by rw [w2 vs his, wipe_wipe], ?_⟩⟩
    refine ht ρ2 σ2 H' S' _ _ h2 r2 fun b H3 S3 h3 g3 => ?_
    have g03 : Grow H0 S0 H3 S3 := (gg.trans g').trans g3
    have sD : S' D0 = none := by rw [g'.nw D0 (by rw [hH]; intro z; cases z)]; exact hS
    have hD' : H' D0 = some (.lst ws) := g'.hh _ _ hH
    have sD3 : S3 D0 = none := by rw [g3.nw D0 (by rw [hD']; intro z; cases z)]; exact sD
    have hD3 : H3 D0 = some (.lst ws) := g3.hh _ _ hD'
    cases b with
    | false => exact iteF ⟨rfl, hlt, S3, acc, ws, g03, (ss.trans g'.ss).trans g3.ss, hD3, sD3, Dats.mono g3.ss _ _ (Dats.mono g'.ss _ _ hd), h3⟩
    | true =>
      refine iteT ⟨X0, ρ2, _, F, S3, h3, r2.grow g3, exOk0, fun y v H4 S4 h4 g4 d4 => ?_⟩
      have sD4 : S4 D0 = none := by rw [g4.nw D0 (by rw [hD3]; intro z; cases z)]; exact sD3
      have hD4 : H4 D0 = some (.lst ws) := g4.hh _ _ hD3
      have hd4 : Dats S4 acc ws := Dats.mono g4.ss _ _ (Dats.mono g3.ss _ _ (Dats.mono g'.ss _ _ hd))
      have g04 : Grow H0 S0 H4 S4 := g03.trans g4
      refine ⟨ws, hD4, by rw [hd4.len]; exact h4.1, rfl, hlt, S4, acc ++ [y], ws ++ [v], ⟨fun b o e => ?_, g04.ss, fun b o e => ?_, g04.nw⟩, ((ss.trans g'.ss).trans g3.ss).trans g4.ss, upd_same, sD4, hd4.app (.one d4), h4.2⟩
      · rw [upd_ne (ne_of_none e hD0)]
        exact g04.hh b o e
      · rw [upd_ne (ne_of_none e sD4)]
        exact g04.sh b o e
  · have e : i = ds.length := by omega
    subst e
    rw [List.drop_length] at hc
    exact .inl ⟨(hJ _ H S ss gg.sh).2 (Nat.le_refl _), k acc ws H S hc gg hD0 hS hH hd⟩
variable {elt iter : Expr} {scope : Scope} {own : List (Str × Nat)} {vs : List Nat} {wi : WL} {g : WG} {is : List Nat} {we : WE} {wt : WT} {c : Expr}
def wtYes : WT := fun _ _ Q => Q true
theorem df_lc (hc : X.calm = true) (hN : X.N.Nodup) (hi : ID X E tg iter wi) (ok : BlkOk X.N X.env.scope scope own)
    (hg : ∀ (s : Shared) (H : Hp) (C : Addr) (cl : List (Str × Addr)) (fp : List Addr), GD (X.blk s H scope (compEnvC scope cl C X.env) fp) tg is g)
    (he : ∀ (s : Shared) (H : Hp) (C : Addr) (cl : List (Str × Addr)) (fp : List Addr), ED (X.blk s H scope (compEnvC scope cl C X.env) fp) E0 elt we)
    (hvs : own.map (·.2) = vs := by rfl) (his : ∀ i ∈ is, i ∈ vs := by decide) (hs : ∀ x, foldedSetIterable iter X.env x = pure x := by intro _; rfl) :
    DF X E (.ListComp elt [⟨tg, iter, [], 0⟩] scope pos) (wLc wi g wtYes we vs) := by
  subst hvs
  obtain ⟨ti, pti, s⟩ := hi.ex
  refine ⟨_, pe_lc (g := canG g is) (tt := tYes) (te := canE X.mg E0 we) hc hN pti ok (fun s H C cl fp => (hg s H C cl fp).can) (fun _ _ _ _ _ => pts_nil) (fun s H C cl fp => (he s H C cl fp).can) hs, fun x ρ Q hw F σ H S Q' rp ex k => ?_⟩
  refine s x ρ _ hw F σ H S _ rp ex fun ds J H1 S1 q1 g1 hJ D0 hD => ?_
  exact lc_sound his rp g1 hJ hD q1 (fun ρ2 σ2 H S R R' h r k => k true H S h (.refl r.sh)) fun xs ws H' S' q g h0 h1 h2 hd => k xs D0 ws H' S' q g h0 h1 h2 hd
theorem df_lcIf (hc : X.calm = true) (hN : X.N.Nodup) (hi : ID X E tg iter wi) (ok : BlkOk X.N X.env.scope scope own)
    (hg : ∀ (s : Shared) (H : Hp) (C : Addr) (cl : List (Str × Addr)) (fp : List Addr), GD (X.blk s H scope (compEnvC scope cl C X.env) fp) tg is g)
    (ht : ∀ (s : Shared) (H : Hp) (C : Addr) (cl : List (Str × Addr)) (fp : List Addr), TD (X.blk s H scope (compEnvC scope cl C X.env) fp) E0 c wt)
    (he : ∀ (s : Shared) (H : Hp) (C : Addr) (cl : List (Str × Addr)) (fp : List Addr), ED (X.blk s H scope (compEnvC scope cl C X.env) fp) E0 elt we)
    (hvs : own.map (·.2) = vs := by rfl) (his : ∀ i ∈ is, i ∈ vs := by decide) (hs : ∀ x, foldedSetIterable iter X.env x = pure x := by intro _; rfl) :
    DF X E (.ListComp elt [⟨tg, iter, [c], 0⟩] scope pos) (wLc wi g wt we vs) := by
  subst hvs
  obtain ⟨ti, pti, s⟩ := hi.ex
  refine ⟨_, pe_lc (g := canG g is) (tt := canT X.mg E0 wt) (te := canE X.mg E0 we) hc hN pti ok (fun s H C cl fp => (hg s H C cl fp).can) (fun s H C cl fp => pts_one (ht s H C cl fp).can) (fun s H C cl fp => (he s H C cl fp).can) hs, fun x ρ Q hw F σ H S Q' rp ex k => ?_⟩
  refine s x ρ _ hw F σ H S _ rp ex fun ds J H1 S1 q1 g1 hJ D0 hD => ?_
  exact lc_sound his rp g1 hJ hD q1 (fun ρ2 σ2 H S R R' h r k => ⟨X0, ρ2, R, F, S, h, r, exOk0, k⟩) fun xs ws H' S' q g h0 h1 h2 hd => k xs D0 ws H' S' q g h0 h1 h2 hd
end
end NL

namespace NL
open PySem PySem.Spec L2
open PyProof.Rows hiding St
variable [KC]

structure DEnds where
  nx : Ev → Prop
  rt : Rt → Ev → Prop
  bk : Ev → Prop := fun _ => False
  ct : Ev → Prop := fun _ => False
  ex : XS
abbrev WS := DEnds → Ev → Prop
structure EndsOk (mg : Str → Option Value) (E : XK) (F : Fr) (q : DEnds) (D : Ends) : Prop where
  nx : ∀ ρ σ H S, q.nx ρ → Rep F ρ σ H S → D.nx σ H
  rt : ∀ r ρ v σ H S, q.rt r ρ → Rep F ρ σ H S → RtP F.H0 H S r v → D.rt v H
  bk : ∀ ρ σ H S, q.bk ρ → Rep F ρ σ H S → D.bk σ H
  ct : ∀ ρ σ H S, q.ct ρ → Rep F ρ σ H S → D.ct σ H
  ex : ∀ n C H S, q.ex n → mg n = some (.ref C) → FGrow F H S → E (.ref C) none H
theorem EndsOk.exOk {mg : Str → Option Value} {E : XK} {F : Fr} {q : DEnds} {D : Ends} {ρ : Ev} {σ : L2.St} {H S : Hp} (o : EndsOk mg E F q D) (r : Rep F ρ σ H S) : ExOk mg E q.ex H S :=
  fun n C H' S' h1 h2 g => o.ex n C H' S' h1 h2 (r.fg.grow g)
structure SD (X : Cx) (E : XK) (st : Stmt) (w : WS) : Prop where
  ex : ∃ t, PS X st t ∧ ∀ (q : DEnds) (ρ : Ev), w q ρ → ∀ (F : Fr) (σ : L2.St) (H S : Hp) (D : Ends), Rep F ρ σ H S → EndsOk X.mg E F q D → t D σ H
structure SDs (X : Cx) (E : XK) (st : List Stmt) (w : WS) : Prop where
  ex : ∃ t, PSs X st t ∧ ∀ (q : DEnds) (ρ : Ev), w q ρ → ∀ (F : Fr) (σ : L2.St) (H S : Hp) (D : Ends), Rep F ρ σ H S → EndsOk X.mg E F q D → t D σ H

section
variable {X : Cx} {E : XK} {st : Stmt} {sts : List Stmt} {e a b : Expr} {pos : Pos} {w wa wb we : WE} {wt : WT} {ws wu : WS} {wl : WL}
def wsNil  : WS := fun q ρ => q.nx ρ
theorem sds_nil : SDs X E [] wsNil := ⟨_, pss_nil, fun q ρ hw F σ H S D rp o => o.nx ρ σ H S hw rp⟩
def wSeqS (w1 w2 : WS) : WS := fun q ρ => w1 { q with nx := w2 q } ρ
theorem sds_cons (h1 : SD X E st ws) (h2 : SDs X E sts wu) : SDs X E (st :: sts) (wSeqS ws wu) := by
  obtain ⟨t, p, s⟩ := h1.ex
  obtain ⟨t', p', s'⟩ := h2.ex
  refine ⟨_, pss_cons p p', fun q ρ hw F σ H S D rp o => ?_⟩
  exact s _ ρ hw F σ H S _ rp ⟨fun ρ1 σ1 H1 S1 q1 r1 => s' q ρ1 q1 F σ1 H1 S1 D r1 o, o.rt, o.bk, o.ct, o.ex⟩
theorem sds_one (h1 : SD X E st ws) : SDs X E [st] ws := by
  obtain ⟨t, p, s⟩ := h1.ex
  exact ⟨_, pss_one p, s⟩
/-- from here on the slot's own thing is shared -/
def wFrz (i : Nat) (w : WS) : WS := fun q ρ => match ρ[i]? with
  | some (.own false c) => w q (ρ.set i (.fz c.d))
  | some (.fz _) => w q ρ
  | _ => False
theorem sds_frz (i : Nat) (h : SDs X E sts ws) : SDs X E sts (wFrz i ws) := by
  obtain ⟨t, p, s⟩ := h.ex
  refine ⟨t, p, fun q ρ hw F σ H S D rp o => ?_⟩
  unfold wFrz at hw
  split at hw
  · rename_i c hi
    obtain ⟨S', r'⟩ := rp.frz hi
    exact s q _ hw F σ H S' D r' o
  · exact s q ρ hw F σ H S D rp o
  · exact hw.elim
theorem sd_pass : SD X E (.Pass pos) wsNil := ⟨_, ps_pass, fun q ρ hw F σ H S D rp o => o.nx ρ σ H S hw rp⟩
def wsBrk  : WS := fun q ρ => q.bk ρ
theorem sd_break : SD X E (.Break pos) wsBrk := ⟨_, ps_break, fun q ρ hw F σ H S D rp o => o.bk ρ σ H S hw rp⟩
def wsCnt  : WS := fun q ρ => q.ct ρ
theorem sd_continue : SD X E (.Continue pos) wsCnt := ⟨_, ps_continue, fun q ρ hw F σ H S D rp o => o.ct ρ σ H S hw rp⟩
def wsExpr (w : WE) : WS := fun q ρ => w q.ex ρ fun _ => q.nx ρ
theorem sd_expr (he : ED X E e w) (hs : swapsWith e none pos.line X.env = pure false := by rfl) : SD X E (.Expr e pos) (wsExpr w) := by
  obtain ⟨t, p, s⟩ := he.ex
  refine ⟨_, ps_expr p hs, fun q ρ hw F σ H S D rp o => ?_⟩
  exact s q.ex ρ _ hw F σ H S _ rp (o.exOk rp) fun d v H1 S1 q1 g1 h1 => o.nx ρ σ H1 S1 q1 (rp.grow g1)
def wsRet (w : WE) : WS := fun q ρ => w q.ex ρ fun d => q.rt (.val d) ρ
theorem sd_ret (he : ED X E e w) : SD X E (.Return (some e) pos) (wsRet w) := by
  obtain ⟨t, p, s⟩ := he.ex
  refine ⟨_, ps_ret p, fun q ρ hw F σ H S D rp o => ?_⟩
  exact s q.ex ρ _ hw F σ H S _ rp (o.exOk rp) fun d v H1 S1 q1 g1 h1 => o.rt _ ρ v σ H1 S1 q1 (rp.grow g1) h1
theorem fg_free {F : Fr} {H S : Hp} (f : FGrow F H S) {p : Addr} (h : H p = none) : F.H0 p = none := by
  cases q : F.H0 p with
  | none => rfl
  | some o => exact absurd h (f.al p (by rw [q]; intro z; cases z))
def wsRetF (wl : WL) : WS := fun q ρ => wl q.ex ρ fun xs => q.rt (.new (.lst xs)) ρ
theorem sd_retF (he : DF X E e wl) : SD X E (.Return (some e) pos) (wsRetF wl) := by
  obtain ⟨t, p, s⟩ := he.ex
  refine ⟨_, ps_ret p, fun q ρ hw F σ H S D rp o => ?_⟩
  exact s q.ex ρ _ hw F σ H S _ rp (o.exOk rp) fun xs p vs H1 S1 q1 g1 h0 h1 h2 hd => o.rt _ ρ _ σ H1 S1 q1 (rp.grow g1) ⟨p, _, rfl, fg_free rp.fg h0, h1, h2, vs, rfl, hd⟩
def wsRetOwn (i : Nat) : WS := fun q ρ => match ρ[i]? with
  | some (.own false c) => q.rt (.new c) ρ
  | _ => False
theorem sd_retOwn (i : Nat) {x : Str} {p : Pos} (hN : X.N[i]? = some x := by rfl) (hv : Vis X.env.scope x := by first | exact Or.inl rfl | exact Or.inr (Or.inl rfl) | exact Or.inr (Or.inr rfl)) (hd : (x == ("__debug__" : Str)) = false := by decide)
    (hcd : (x == ("__classdict__" : Str)) = false := by decide) : SD X E (.Return (some (.Name x p)) pos) (wsRetOwn i) := by
  refine ⟨_, ps_ret (pe_var hN hv hd hcd), fun q ρ hw F σ H S D rp o => ?_⟩
  unfold wsRetOwn at hw
  split at hw
  · rename_i c hi
    obtain ⟨p, u, e, h1, h2, h3, _, h4⟩ := rp.own hi
    exact ⟨.ref p, e, o.rt _ ρ _ σ H S hw rp ⟨p, u, rfl, h4 rfl, h1, h2, h3⟩⟩
  · exact hw.elim
def wsRetN  : WS := fun q ρ => q.rt (.val .non) ρ
theorem sd_retN : SD X E (.Return none pos) wsRetN := ⟨_, ps_retN, fun q ρ hw F σ H S D rp o => o.rt _ ρ V.non σ H S hw rp (show Dat S .non .non from .n)⟩
def wIfS (wt : WT) (ws wu : WS) : WS := fun q ρ => wt q.ex ρ fun b => Br b (ws q ρ) (wu q ρ) ⟨⟩ ⟨⟩
theorem sd_if {c : Expr} {p1 p2 : List Stmt} (hc : TD X E c wt) (ha : SDs X E p1 ws) (hb : SDs X E p2 wu) : SD X E (.If c p1 p2 pos) (wIfS wt ws wu) := by
  obtain ⟨t, p, s⟩ := hc.ex
  obtain ⟨ta, pa, sa⟩ := ha.ex
  obtain ⟨tb, pb, sb⟩ := hb.ex
  refine ⟨_, ps_if p pa pb, fun q ρ hw F σ H S D rp o => ?_⟩
  refine s q.ex ρ _ hw F σ H S _ rp (o.exOk rp) fun b H1 S1 q1 g1 => ?_
  cases b with
  | true => exact iteT (sa q ρ q1 F σ H1 S1 D (rp.grow g1) o)
  | false => exact iteF (sb q ρ q1 F σ H1 S1 D (rp.grow g1) o)

/-! ### stores -/
def locX (X : Cx) (x : Str) : Prop := Loc X.env.scope x ∧ (X.fn x = true ∨ X.env.scope.names.lookup x = some .local)
def wsSet (i : Nat) (w : WE) : WS := fun q ρ => w q.ex ρ fun d => q.nx (ρ.set i (.fz d))
theorem sd_set (i : Nat) {x : Str} {p : Pos} (hN : X.N.Nodup) (he : ED X E e w) (hi : X.N[i]? = some x := by rfl) (hx : Loc X.env.scope x := by first | exact Or.inl rfl | exact Or.inr rfl) (hs : swapsWith e (some (.Name x p)) pos.line X.env = pure false := by rfl)
    (hf : X.fn x = true ∨ X.env.scope.names.lookup x = some .local := by first | exact .inl rfl | exact .inr rfl) : SD X E (.Assign [.Name x p] e pos) (wsSet i w) := by
  obtain ⟨t, pe, s⟩ := he.ex
  refine ⟨_, ps_set hN hi hx pe hs hf, fun q ρ hw F σ H S D rp o => ?_⟩
  exact s q.ex ρ _ hw F σ H S _ rp (o.exOk rp) fun d v H1 S1 q1 g1 h1 => o.nx _ _ H1 S1 q1 ((rp.grow g1).set h1)
theorem own_ne {F : Fr} {ρ : Ev} {σ : L2.St} {H S : Hp} (rp : Rep F ρ σ H S) {p : Addr} (h0 : H p = none) (j : Nat) (m : Bool) (c : Cn) (h : ρ[j]? = some (.own m c)) : σ[j]? ≠ some (some (.ref p)) := fun z => by
  obtain ⟨p', o, e, _, h2, _⟩ := rp.own h
  rw [e] at z
  cases z
  rw [h0] at h2
  cases h2
def wsSetF (i : Nat) (wl : WL) : WS := fun q ρ => wl q.ex ρ fun xs => q.nx (ρ.set i (.own false (.lst xs)))
theorem sd_setF (i : Nat) {x : Str} {p : Pos} (hN : X.N.Nodup) (he : DF X E e wl) (hi : X.N[i]? = some x := by rfl) (hx : Loc X.env.scope x := by first | exact Or.inl rfl | exact Or.inr rfl) (hs : swapsWith e (some (.Name x p)) pos.line X.env = pure false := by rfl)
    (hf : X.fn x = true ∨ X.env.scope.names.lookup x = some .local := by first | exact .inl rfl | exact .inr rfl) : SD X E (.Assign [.Name x p] e pos) (wsSetF i wl) := by
  obtain ⟨t, pe, s⟩ := he.ex
  refine ⟨_, ps_set hN hi hx pe hs hf, fun q ρ hw F σ H S D rp o => ?_⟩
  exact s q.ex ρ _ hw F σ H S _ rp (o.exOk rp) fun xs p vs H1 S1 q1 g1 h0 h1 h2 hd => o.nx _ _ H1 S1 q1 ((rp.grow g1).setOwn h1 h2 ⟨vs, rfl, hd⟩ (fg_free rp.fg h0) (own_ne rp h0))
/-- name = [.. for ..] -/
theorem sd_setLc (i : Nat) {y : Str} {py spos : Pos} {elt tg iter : Expr} {scope : Scope} {own : List (Str × Nat)} {vs : List Nat} {wi : WL} {g : WG} {is : List Nat} (hc : X.calm = true) (hN : X.N.Nodup) (hi : ID X E tg iter wi) (ok : BlkOk X.N X.env.scope scope own)
    (hg : ∀ (s : Shared) (H : Hp) (C : Addr) (cl : List (Str × Addr)) (fp : List Addr), GD (X.blk s H scope (compEnvC scope cl C X.env) fp) tg is g)
    (he : ∀ (s : Shared) (H : Hp) (C : Addr) (cl : List (Str × Addr)) (fp : List Addr), ED (X.blk s H scope (compEnvC scope cl C X.env) fp) E0 elt we)
    (hy : X.N[i]? = some y := by rfl) (hyl : X.env.scope.names.lookup y = some .local := by rfl) (hsw : swapsWith (.ListComp elt [⟨tg, iter, [], 0⟩] scope pos) (some (.Name y py)) spos.line X.env = pure true := by exact sw_true rfl rfl rfl (by decide +kernel))
    (hvs : own.map (·.2) = vs := by rfl) (his : ∀ i ∈ is, i ∈ vs := by decide) (hs : ∀ x, foldedSetIterable iter X.env x = pure x := by intro _; rfl) :
    SD X E (.Assign [.Name y py] (.ListComp elt [⟨tg, iter, [], 0⟩] scope pos) spos) (wsSetF i (wLc wi g wtYes we vs)) := by
  subst hvs
  obtain ⟨ti, pti, s⟩ := hi.ex
  refine ⟨_, ps_setLc (i := i) (g := canG g is) (tt := tYes) (te := canE X.mg E0 we) hc hN hy hyl hsw pti ok (fun s H C cl fp => (hg s H C cl fp).can) (fun _ _ _ _ _ => pts_nil) (fun s H C cl fp => (he s H C cl fp).can) hs, fun q ρ hw F σ H S D rp o => ?_⟩
  refine s q.ex ρ _ hw F σ H S _ rp (o.exOk rp) fun ds J H1 S1 q1 g1 hJ D0 hD => ?_
  exact lc_sound (Q' := fun x H1 => gName i x σ H1 D.nx) his rp g1 hJ hD q1 (fun ρ2 σ2 H S R R' h r k => k true H S h (.refl r.sh)) fun xs vs H' S' q' g h0 h1 h2 hd =>
    o.nx _ _ H' S' q' ((rp.grow g).setOwn h1 h2 ⟨vs, rfl, hd⟩ (fg_free rp.fg h0) (own_ne rp h0))
theorem sd_setLcIf (i : Nat) {y : Str} {py spos : Pos} {elt tg iter c : Expr} {scope : Scope} {own : List (Str × Nat)} {vs : List Nat} {wi : WL} {g : WG} {is : List Nat} (hc : X.calm = true) (hN : X.N.Nodup) (hi : ID X E tg iter wi) (ok : BlkOk X.N X.env.scope scope own)
    (hg : ∀ (s : Shared) (H : Hp) (C : Addr) (cl : List (Str × Addr)) (fp : List Addr), GD (X.blk s H scope (compEnvC scope cl C X.env) fp) tg is g)
    (ht : ∀ (s : Shared) (H : Hp) (C : Addr) (cl : List (Str × Addr)) (fp : List Addr), TD (X.blk s H scope (compEnvC scope cl C X.env) fp) E0 c wt)
    (he : ∀ (s : Shared) (H : Hp) (C : Addr) (cl : List (Str × Addr)) (fp : List Addr), ED (X.blk s H scope (compEnvC scope cl C X.env) fp) E0 elt we)
    (hy : X.N[i]? = some y := by rfl) (hyl : X.env.scope.names.lookup y = some .local := by rfl) (hsw : swapsWith (.ListComp elt [⟨tg, iter, [c], 0⟩] scope pos) (some (.Name y py)) spos.line X.env = pure true := by exact sw_true rfl rfl rfl (by decide +kernel))
    (hvs : own.map (·.2) = vs := by rfl) (his : ∀ i ∈ is, i ∈ vs := by decide) (hs : ∀ x, foldedSetIterable iter X.env x = pure x := by intro _; rfl) :
    SD X E (.Assign [.Name y py] (.ListComp elt [⟨tg, iter, [c], 0⟩] scope pos) spos) (wsSetF i (wLc wi g wt we vs)) := by
  subst hvs
  obtain ⟨ti, pti, s⟩ := hi.ex
  refine ⟨_, ps_setLc (i := i) (g := canG g is) (tt := canT X.mg E0 wt) (te := canE X.mg E0 we) hc hN hy hyl hsw pti ok (fun s H C cl fp => (hg s H C cl fp).can) (fun s H C cl fp => pts_one (ht s H C cl fp).can) (fun s H C cl fp => (he s H C cl fp).can) hs, fun q ρ hw F σ H S D rp o => ?_⟩
  refine s q.ex ρ _ hw F σ H S _ rp (o.exOk rp) fun ds J H1 S1 q1 g1 hJ D0 hD => ?_
  exact lc_sound (Q' := fun x H1 => gName i x σ H1 D.nx) his rp g1 hJ hD q1 (fun ρ2 σ2 H S R R' h r k => ⟨X0, ρ2, R, F, S, h, r, exOk0, k⟩) fun xs vs H' S' q' g h0 h1 h2 hd =>
    o.nx _ _ H' S' q' ((rp.grow g).setOwn h1 h2 ⟨vs, rfl, hd⟩ (fg_free rp.fg h0) (own_ne rp h0))
/-- a target of several names -/
def wsAsg (w : WE) (g : WG) : WS := fun q ρ => w q.ex ρ fun d => g d ρ q.nx
theorem sd_asg {tg : Expr} {is : List Nat} {g : WG} (he : ED X E e w) (hg : GD X tg is g) (hs : swapsWithSole [tg] e pos.line X.env = pure false := by rfl) (hw : swappedStores [tg] e X.env = pure none := by rfl)
    (h1 : (assignEach [tg] X.env).map (·.2) = [assign tg X.env] := by rfl) : SD X E (.Assign [tg] e pos) (wsAsg w g) := by
  obtain ⟨t, pe, s⟩ := he.ex
  obtain ⟨tg, pg, sg⟩ := hg.ex
  refine ⟨_, ps_asg pe pg hs hw h1, fun q ρ hw F σ H S D rp o => ?_⟩
  refine s q.ex ρ _ hw F σ H S _ rp (o.exOk rp) fun d v H1 S1 q1 g1 h1 => ?_
  exact sg d ρ _ q1 F σ H1 S1 v _ (rp.grow g1) h1 fun ρ' σ' q2 r2 _ => o.nx _ _ H1 S1 q2 r2
/-- a, b = x, y -/
def wsPar (i j : Nat) (wa wb : WE) : WS := fun q ρ => wa q.ex ρ fun d => wb q.ex ρ fun d' => q.nx ((ρ.set i (.fz d)).set j (.fz d'))
theorem sd_par (i j : Nat) {x y : Str} {wb : WE} {px py pt : Pos} {kt k2 pt2} (hc : X.calm = true) (hN : X.N.Nodup) (ha : ED X E a wa) (hb : ED X E b wb) (hi : X.N[i]? = some x := by rfl) (hj : X.N[j]? = some y := by rfl) (hij : i ≠ j := by decide)
    (hx : X.env.scope.names.lookup x = some .local := by rfl) (hy : X.env.scope.names.lookup y = some .local := by rfl)
    (hw : swappedStores [.Tuple [.Name x px, .Name y py] kt pt] (.Tuple [a, b] k2 pt2) X.env = pure (some [x, y]) := by rfl)
    (hs : swapsWithSole [.Tuple [.Name x px, .Name y py] kt pt] (.Tuple [a, b] k2 pt2) pos.line X.env = pure false := by rfl)
    (he2 : starEach (b :: []) X.env = (false, eval b X.env) :: starEach [] X.env := by rfl) (he : starEach (a :: [b]) X.env = (false, eval a X.env) :: starEach [b] X.env := by rfl) :
    SD X E (.Assign [.Tuple [.Name x px, .Name y py] kt pt] (.Tuple [a, b] k2 pt2) pos) (wsPar i j wa wb) := by
  obtain ⟨t, pt, s⟩ := (ad_cons ha (ad_cons hb ad_nil he2) he).ex
  refine ⟨_, ps_par hc hN hi hj hij hx hy pt hw hs, fun q ρ hw F σ H S D rp o => ?_⟩
  refine s q.ex ρ (fun ds => match ds with
    | [d, d'] => q.nx ((ρ.set i (.fz d)).set j (.fz d'))
    | _ => False) hw F σ H S _ rp (o.exOk rp) fun ds vs H1 S1 q1 g1 h1 => ?_
  split at q1
  · unfold Dats Dats Dats at h1
    obtain ⟨v, _, rfl, d1, v', _, rfl, d2, rfl⟩ := h1
    exact ⟨v, v', rfl, o.nx _ _ H1 S1 q1 (((rp.grow g1).set d1).set d2)⟩
  · exact q1.elim
/-- name op= e -/
structure PipD (X : Cx) (op : Operator) (g : D → D → (D → Prop) → Prop) : Prop where
  ex : ∃ r : TIp, PIp X op r ∧ ∀ (d e : D) (Q : D → Prop), g d e Q → ∀ (H S : Hp) (u v : V) (Q' : VK), Same S H → Dat S d u → Dat S e v → (∀ z y, Q z → Dat S z y → Q' y H) → r u v H Q'
theorem pipAdd : PipD X .Add (gInt0 fun i j => i + j) := by
  refine ⟨_, ip_add, fun d e Q h H S u v Q' sh hd he k => ?_⟩
  unfold gInt0 at h
  split at h
  · unfold Dat at hd he
    exact ⟨_, _, hd, he, k _ _ h .i⟩
  · exact h.elim
theorem pipMul : PipD X .Mult (gInt CMulW fun i j => i * j) := by
  refine ⟨rI CMulW fun i j => .int (i * j), ?_, fun d e Q h H S u v Q' sh hd he k => ?_⟩
  · intro pins s σ H x y v u Q I r1 r2 h
    have o : OpR X (inplaceOp .Mult) (rI CMulW fun i j => .int (i * j)) := opI fun _ _ _ _ _ _ _ hc q => imul_int q hc.ok
    exact o pins s σ H x y v u Q I r1 r2 h
  · unfold gInt at h
    split at h
    · unfold Dat at hd he
      exact ⟨_, _, hd, he, h.1, k _ _ h.2 .i⟩
    · exact h.elim
def wsAug (i : Nat) (g : D → D → (D → Prop) → Prop) (w : WE) : WS := fun q ρ => match ρ[i]? with
  | some (.fz d) => w q.ex ρ fun d' => g d d' fun z => q.nx (ρ.set i (.fz z))
  | _ => False
theorem sd_aug (i : Nat) {x : Str} {p : Pos} {op : Operator} {g : D → D → (D → Prop) → Prop} (hN : X.N.Nodup) (ho : PipD X op g) (he : ED X E e w) (hi : X.N[i]? = some x := by rfl) (hx : Loc X.env.scope x := by first | exact Or.inl rfl | exact Or.inr rfl)
    (hf : X.fn x = true ∨ X.env.scope.names.lookup x = some .local := by first | exact .inl rfl | exact .inr rfl) : SD X E (.AugAssign (.Name x p) op e pos) (wsAug i g w) := by
  obtain ⟨t, pe, s⟩ := he.ex
  obtain ⟨r, pi, si⟩ := ho.ex
  refine ⟨_, ps_aug hN hi hx pe pi hf, fun q ρ hw F σ H S D rp o => ?_⟩
  unfold wsAug at hw
  split at hw
  · rename_i d hi
    obtain ⟨v, e, hd⟩ := rp.fz hi
    refine ⟨v, e, s q.ex ρ _ hw F σ H S _ rp (o.exOk rp) fun d' v' H1 S1 q1 g1 h1 => ?_⟩
    exact si d d' _ q1 H1 S1 v v' _ g1.sh (Dat.mono g1.ss _ _ hd) h1 fun z y q2 h2 => o.nx _ _ H1 S1 q2 ((rp.grow g1).set h2)
  · exact hw.elim

/-! ### methods that change a slot's own list -/
structure MutD (X : Cx) (id : String) (g : List D → List D → (List D → Prop) → Prop) : Prop where
  ex : ∃ r : V → List V → Hp → VK → Prop, MtR X id r ∧ ∀ (xs ds : List D) (Q : List D → Prop), g xs ds Q → ∀ (H S : Hp) (l : Addr) (us vs : List V) (Q' : VK), Same S H → H l = some (.lst us) → Dats S xs us → Dats S ds vs →
    (∀ ys ws v, Q ys → Dats S ys ws → Q' v (upd H l (.lst ws))) → r (.ref l) vs H Q'
def gApp : List D → List D → (List D → Prop) → Prop
  | xs, [d], Q => xs.length < sizeLine ∧ Q (xs ++ [d])
  | _, _, _ => False
theorem dats1 {S : Hp} {d : D} {vs : List V} (h : Dats S [d] vs) : ∃ v, vs = [v] ∧ Dat S d v := by
  unfold Dats Dats at h
  obtain ⟨v, _, rfl, h, rfl⟩ := h
  exact ⟨v, rfl, h⟩
theorem mApp : MutD X "list.append" gApp := by
  refine ⟨_, mt_append, fun xs ds Q h H S l us vs Q' sh hl hu hd k => ?_⟩
  unfold gApp at h
  split at h
  · obtain ⟨v, rfl, hv⟩ := dats1 hd
    exact ⟨l, us, v, rfl, rfl, hl, by rw [hu.len]; exact h.1, k _ _ _ h.2 (hu.app (.one hv))⟩
  · exact h.elim
def gExt : List D → List D → (List D → Prop) → Prop
  | xs, [.lst ys], Q => xs.length + ys.length ≤ sizeLine ∧ Q (xs ++ ys)
  | _, _, _ => False
theorem mExt : MutD X "list.extend" gExt := by
  refine ⟨_, mt_extend, fun xs ds Q h H S l us vs Q' sh hl hu hd k => ?_⟩
  unfold gExt at h
  split at h
  · obtain ⟨v, rfl, hv⟩ := dats1 hd
    unfold Dat at hv
    obtain ⟨b, ws, rfl, r, z⟩ := hv
    exact ⟨l, b, us, ws, rfl, rfl, hl, sh _ _ r, by rw [hu.len, z.len]; exact h.1, k _ _ _ h.2 (hu.app z)⟩
  · exact h.elim
def gPop0 : List D → List D → (List D → Prop) → Prop
  | xs, [], Q => xs ≠ [] ∧ Q xs.dropLast
  | _, _, _ => False
theorem mPop : MutD X "list.pop" gPop0 := by
  refine ⟨_, mt_pop, fun xs ds Q h H S l us vs Q' sh hl hu hd k => ?_⟩
  unfold gPop0 at h
  split at h
  · unfold Dats at hd
    subst hd
    have hlen := hu.len
    have hpos : 0 < us.length := by
      rw [hlen]
      exact List.length_pos_iff.mpr h.1
    exact ⟨l, us, us[us.length - 1], rfl, rfl, hl, List.getElem?_eq_getElem (by omega), k _ _ _ h.2 hu.dropLast⟩
  · exact h.elim
def gRev : List D → List D → (List D → Prop) → Prop
  | xs, [], Q => Q xs.reverse
  | _, _, _ => False
theorem mRev : MutD X "list.reverse" gRev := by
  refine ⟨_, mt_reverse, fun xs ds Q h H S l us vs Q' sh hl hu hd k => ?_⟩
  unfold gRev at h
  split at h
  · unfold Dats at hd
    subst hd
    exact ⟨l, us, rfl, rfl, hl, k _ _ _ h hu.rev⟩
  · exact h.elim
variable {T name id : String} {es : List Expr} {apos mpos : Pos} {p : Pos} {x : Str}
def wMut (i : Nat) (g : List D → List D → (List D → Prop) → Prop) (wl : WL) : WS := fun q ρ => match ρ[i]? with
  | some (.own m (.lst xs)) => wl q.ex ρ fun ds => g xs ds fun ys => q.nx (ρ.set i (.own m (.lst ys)))
  | _ => False
theorem mut_sound {i : Nat} {g : List D → List D → (List D → Prop) → Prop} {r : V → List V → Hp → VK → Prop} {t : TA}
    (so : ∀ (xs ds : List D) (Q : List D → Prop), g xs ds Q → ∀ (H S : Hp) (l : Addr) (us vs : List V) (Q' : VK), Same S H → H l = some (.lst us) → Dats S xs us → Dats S ds vs →
      (∀ ys ws v, Q ys → Dats S ys ws → Q' v (upd H l (.lst ws))) → r (.ref l) vs H Q')
    (s : ∀ (x : XS) (ρ : Ev) (Q : List D → Prop), wl x ρ Q → ∀ (F : Fr) (σ : L2.St) (H S : Hp) (Q' : List V → Hp → Prop), Rep F ρ σ H S → ExOk X.mg E x H S →
      (∀ ds vs H' S', Q ds → Grow H S H' S' → Dats S' ds vs → Q' vs H') → t σ H Q')
    (q : DEnds) (ρ : Ev) (hw : wMut i g wl q ρ) (F : Fr) (σ : L2.St) (H S : Hp) (D : Ends) (rp : Rep F ρ σ H S) (o : EndsOk X.mg E F q D) : tDrop (tBM X.K "list" r (tVar i) t) D σ H := by
  unfold wMut at hw
  split at hw
  · rename_i m xs hi
    obtain ⟨l, u, e, h1, h2, ⟨us, rfl, h3⟩, _⟩ := rp.own hi
    refine ⟨.ref l, e, .inl ⟨rfl, _, .of h2⟩, ?_⟩
    refine s q.ex ρ _ hw F σ H S _ rp (o.exOk rp) fun ds vs H1 S1 q1 g1 hd => ?_
    refine so xs ds _ q1 H1 S1 l us vs _ g1.sh (g1.hh _ _ h2) (Dats.mono g1.ss _ _ h3) hd fun ys ws v q2 hy => ?_
    exact o.nx _ _ _ S1 q2 ((rp.grow g1).put (o' := .lst ws) hi e ⟨ws, rfl, hy⟩)
  · exact hw.elim
theorem sd_mut (i : Nat) {g : List D → List D → (List D → Prop) → Prop} (hm : MutD X id g) (slot : Slot "list" name id) (hty : typeOf (.builtin id) = pure (.type "method_descriptor")) (ha : AD X E (e :: es) wl)
    (hN : X.N[i]? = some x := by rfl) (hv : Vis X.env.scope x := by first | exact Or.inl rfl | exact Or.inr (Or.inl rfl) | exact Or.inr (Or.inr rfl)) (hd : (x == ("__debug__" : Str)) = false := by decide) (hcd : (x == ("__classdict__" : Str)) = false := by decide)
    (hbase : attributeBase (.Name x p) name X.env (eval (.Name x p) X.env) = eval (.Name x p) X.env := by rfl)
    (hfew : ((backTo mpos (starEach (e :: es) X.env)).all (fun x => !x.1) && (backToKw mpos (keywordEach [] X.env)).all (fun x => x.1.isSome)
      && decide ((e :: es).length + ([] : List Keyword).length + (if ([] : List Keyword).isEmpty then 0 else 1) < 30)) = true := by rfl)
    (hline : (apos.endLine == mpos.line) = true := by rfl) (hst : starEach (e :: es) X.env = (false, eval e X.env) :: starEach es X.env := by rfl) (hplain : (backTo mpos (starEach es X.env)).any (·.1) = false := by rfl)
    (hs : swapsWith (.Call (.Attribute (.Name x p) name apos) (e :: es) [] mpos) none pos.line X.env = pure false := by rfl) :
    SD X E (.Expr (.Call (.Attribute (.Name x p) name apos) (e :: es) [] mpos) pos) (wMut i g wl) := by
  obtain ⟨r, mr, so⟩ := hm.ex
  obtain ⟨t, pt, s⟩ := ha.ex
  exact ⟨_, ps_expr (pe_bm PySem.F.plainAttrs_list slot hty mr (pe_var hN hv hd hcd) pt hbase hfew hline hst hplain) hs, mut_sound so s⟩
theorem sd_mut0 (i : Nat) {g : List D → List D → (List D → Prop) → Prop} (hm : MutD X id g) (slot : Slot "list" name id) (hty : typeOf (.builtin id) = pure (.type "method_descriptor"))
    (hN : X.N[i]? = some x := by rfl) (hv : Vis X.env.scope x := by first | exact Or.inl rfl | exact Or.inr (Or.inl rfl) | exact Or.inr (Or.inr rfl)) (hd : (x == ("__debug__" : Str)) = false := by decide) (hcd : (x == ("__classdict__" : Str)) = false := by decide)
    (hbase : attributeBase (.Name x p) name X.env (eval (.Name x p) X.env) = eval (.Name x p) X.env := by rfl) (hline : (apos.endLine == mpos.line) = true := by rfl)
    (hs : swapsWith (.Call (.Attribute (.Name x p) name apos) [] [] mpos) none pos.line X.env = pure false := by rfl) :
    SD X E (.Expr (.Call (.Attribute (.Name x p) name apos) [] [] mpos) pos) (wMut i g wNil) := by
  obtain ⟨r, mr, so⟩ := hm.ex
  refine ⟨_, ps_expr (pe_bm0 PySem.F.plainAttrs_list slot hty mr (pe_var hN hv hd hcd) hbase hline) hs, fun q ρ hw F σ H S D rp o => ?_⟩
  unfold wMut at hw
  split at hw
  · rename_i m xs hi
    obtain ⟨l, u, e, h1, h2, ⟨us, rfl, h3⟩, _⟩ := rp.own hi
    refine ⟨.ref l, e, .inl ⟨rfl, _, .of h2⟩, ?_⟩
    refine so xs [] _ hw H S l us [] _ rp.sh h2 h3 .nil fun ys ws v q2 hy => ?_
    exact o.nx _ _ _ S q2 (rp.put (o' := .lst ws) hi e ⟨ws, rfl, hy⟩)
  · exact hw.elim
/-- l[k] = e, l a slot's own list -/
def wsSetIx (i : Nat) (w wb : WE) : WS := fun q ρ => w q.ex ρ fun d => match ρ[i]? with
  | some (.own m (.lst xs)) => wb q.ex ρ fun k => match k with
    | .int k => ∃ j, ixN xs.length k = some j ∧ q.nx (ρ.set i (.own m (.lst (xs.set j d))))
    | _ => False
  | _ => False
theorem sd_setIx (i : Nat) {tpos : Pos} (he : ED X E e w) (hb : ED X E b wb) (hN : X.N[i]? = some x := by rfl) (hv : Vis X.env.scope x := by first | exact Or.inl rfl | exact Or.inr (Or.inl rfl) | exact Or.inr (Or.inr rfl)) (hd : (x == ("__debug__" : Str)) = false := by decide) (hcd : (x == ("__classdict__" : Str)) = false := by decide)
    (ha : ∀ v, assign (.Subscript (.Name x p) b tpos) X.env v = (do
      let ov ← holding [v] (eval (.Name x p) X.env)
      let iv ← holding [v, ov] (eval b X.env)
      standAt tpos
      holding [v, ov, iv] (setItem ov iv v)
      release [v, ov, iv] []) := by intro _; rfl) (hs : swapsWithSole [.Subscript (.Name x p) b tpos] e pos.line X.env = pure false := by rfl) (hw : swappedStores [.Subscript (.Name x p) b tpos] e X.env = pure none := by rfl)
    (h1 : (assignEach [.Subscript (.Name x p) b tpos] X.env).map (·.2) = [assign (.Subscript (.Name x p) b tpos) X.env] := by rfl) :
    SD X E (.Assign [.Subscript (.Name x p) b tpos] e pos) (wsSetIx i w wb) := by
  obtain ⟨t, pe, s⟩ := he.ex
  obtain ⟨tb, pb, sb⟩ := hb.ex
  refine ⟨_, ps_asg pe (pg_sub (pe_var hN hv hd hcd) pb set_list ha) hs hw h1, fun q ρ hw F σ H S D rp o => ?_⟩
  refine s q.ex ρ _ hw F σ H S _ rp (o.exOk rp) fun d v H1 S1 q1 g1 h1 => ?_
  split at q1
  · rename_i m xs hi
    have rp1 := rp.grow g1
    obtain ⟨l, u, e, z1, z2, ⟨us, rfl, z3⟩, _⟩ := rp1.own hi
    refine ⟨.ref l, e, sb q.ex ρ _ q1 F σ H1 S1 _ rp1 (o.exOk rp1) fun k kv H2 S2 q2 g2 h2 => ?_⟩
    cases k with
    | int k =>
      unfold Dat at h2
      subst h2
      obtain ⟨j, hj, q2⟩ := q2
      exact ⟨l, us, k, j, rfl, rfl, g2.hh _ _ z2, by rw [z3.len]; exact hj, o.nx _ _ _ S2 q2 ((rp1.grow g2).put hi e ⟨_, rfl, (Dats.mono g2.ss _ _ z3).set j (Dat.mono g2.ss _ _ h1)⟩)⟩
    | _ => exact q2.elim
  · exact q1.elim

/-! ### loops -/
def loopL (g : WG) (wb : WS) (q : DEnds) : List D → Ev → Prop
  | [], ρ => q.nx ρ
  | d :: ds, ρ => g d ρ fun ρ1 => wb { q with nx := loopL g wb q ds, ct := loopL g wb q ds, bk := q.nx } ρ1
def wFor (wi : WL) (g : WG) (wb : WS) : WS := fun q ρ => wi q.ex ρ fun ds => loopL g wb q ds ρ
theorem fg_in {F : Fr} {H S S1 : Hp} (f : FGrow { F with S0 := S1 } H S) (ss : Same F.S0 S1) (nw : ∀ a, F.H0 a ≠ none → S1 a = F.S0 a) : FGrow F H S :=
  ⟨f.hh, f.al, ss.trans f.ss, f.sh, fun a h => (f.nw a h).trans (nw a h)⟩
theorem rep_in {F : Fr} {ρ : Ev} {σ : L2.St} {H S S1 : Hp} (r : Rep { F with S0 := S1 } ρ σ H S) (ss : Same F.S0 S1) (nw : ∀ a, F.H0 a ≠ none → S1 a = F.S0 a) : Rep F ρ σ H S := by
  refine ⟨fg_in r.fg ss nw, r.len, fun i sl h => ?_, r.dist⟩
  have q := r.at' i sl h
  cases sl with
  | un => trivial
  | fz d => exact q
  | own m c => exact q
theorem rep_to {F : Fr} {ρ : Ev} {σ : L2.St} {H S : Hp} (r : Rep F ρ σ H S) : Rep { F with S0 := S } ρ σ H S := by
  refine ⟨⟨r.fg.hh, r.fg.al, .refl _, r.fg.sh, fun _ _ => rfl⟩, r.len, fun i sl h => ?_, r.dist⟩
  have q := r.at' i sl h
  cases sl with
  | un => trivial
  | fz d => exact q
  | own m c => exact q
theorem sd_for {tg iter : Expr} {is : List Nat} {g : WG} {wi : WL} {body : List Stmt} (xk : XOk X E) (hc : X.calm = true) (hi : ID X E tg iter wi) (hg : GD X tg is g) (hb : SDs X E body ws) (hs : ∀ x, foldedSetIterable iter X.env x = pure x := by intro _; rfl) :
    SD X E (.For tg iter body [] pos) (wFor wi g ws) := by
  obtain ⟨ti, pti, si⟩ := hi.ex
  obtain ⟨tg, pg, sg⟩ := hg.ex
  obtain ⟨tb, pb, sb⟩ := hb.ex
  refine ⟨_, ps_for xk.own hc pti pg pb hs, fun q ρ hw F σ H S D rp o => ?_⟩
  refine si q.ex ρ _ hw F σ H S _ rp (o.exOk rp) fun ds J H1 S1 q1 g1 hJ => ?_
  have rp1 := rp.grow g1
  have ss1 := rp1.fg.ss
  have nw1 := rp1.fg.nw
  let W : Nat → Nat → L2.St → Hp → Prop := fun i m σ H => m = ds.length - i ∧ i ≤ ds.length ∧ ∃ ρ S, Rep { F with S0 := S1 } ρ σ H S ∧ loopL g ws q (ds.drop i) ρ
  refine ⟨W, ⟨ds.length, by simp, Nat.zero_le _, ρ, S1, rep_to rp1, q1⟩, ?_⟩
  rintro i m σ2 H2 ⟨rfl, hi, ρ2, S2, r2, hl⟩
  rcases Nat.lt_or_ge i ds.length with hlt | hge
  · obtain ⟨d, hdi⟩ : ∃ d, ds[i]? = some d := ⟨_, List.getElem?_eq_getElem hlt⟩
    obtain ⟨go, yl⟩ := (hJ i H2 S2 r2.fg.ss r2.fg.sh).1 d hdi
    have hdrop : ds.drop i = d :: ds.drop (i + 1) := by
      rw [List.drop_eq_getElem_cons hlt]
      congr 1
      rw [List.getElem?_eq_getElem hlt] at hdi
      exact Option.some.inj hdi
    rw [hdrop] at hl
    refine .inr ⟨go, W (i + 1) (ds.length - (i + 1)), fun σ' H' h => ⟨_, by omega, h⟩, fun x H' y => ?_⟩
    obtain ⟨S', g', dx⟩ := yl x H' y
    refine sg d ρ2 _ hl { F with S0 := S1 } σ2 H' S' x _ (r2.grow g') dx fun ρ3 σ3 h3 r3 _ => ?_
    refine sb _ ρ3 h3 { F with S0 := S1 } σ3 H' S' _ r3 ⟨fun ρ4 σ4 H4 S4 q4 r4 => ⟨rfl, hlt, ρ4, S4, r4, q4⟩, fun r ρ4 v σ4 H4 S4 q4 r4 p4 => o.rt r ρ4 v σ4 H4 S4 q4 (rep_in r4 ss1 nw1) p4,
      fun ρ4 σ4 H4 S4 q4 r4 => o.nx ρ4 σ4 H4 S4 q4 (rep_in r4 ss1 nw1), fun ρ4 σ4 H4 S4 q4 r4 => ⟨rfl, hlt, ρ4, S4, r4, q4⟩, fun n C H4 S4 h1 h2 h3 => o.ex n C H4 S4 h1 h2 (fg_in h3 ss1 nw1)⟩
  · have e : i = ds.length := by omega
    subst e
    rw [List.drop_length] at hl
    exact .inl ⟨(hJ _ H2 S2 r2.fg.ss r2.fg.sh).2 (Nat.le_refl _), o.nx ρ2 σ2 H2 S2 hl (rep_in r2 ss1 nw1)⟩
/-- while, by a word and a measure -/
def wWhile (wt : WT) (wb : WS) : WS := fun q ρ => ∃ I : Nat → Ev → Prop, (∃ m, I m ρ) ∧ ∀ m ρ, I m ρ → wt q.ex ρ fun b => Br b (wb { q with nx := fun ρ' => ∃ m', m' < m ∧ I m' ρ', ct := fun ρ' => ∃ m', m' < m ∧ I m' ρ', bk := q.nx } ρ) (q.nx ρ) ⟨⟩ ⟨⟩
theorem sd_while {c : Expr} {body : List Stmt} (xk : XOk X E) (hc : TD X E c wt) (hb : SDs X E body ws) : SD X E (.While c body [] pos) (wWhile wt ws) := by
  obtain ⟨t, p, s⟩ := hc.ex
  obtain ⟨tb, pb, sb⟩ := hb.ex
  refine ⟨_, ps_while xk.own p pb, fun q ρ hw F σ H S D rp o => ?_⟩
  obtain ⟨I, ⟨m0, h0⟩, turn⟩ := hw
  refine ⟨fun m σ H => ∃ ρ S, Rep F ρ σ H S ∧ I m ρ, ⟨m0, ρ, S, rp, h0⟩, ?_⟩
  rintro m σ2 H2 ⟨ρ2, S2, r2, h2⟩
  refine s q.ex ρ2 _ (turn m ρ2 h2) F σ2 H2 S2 _ r2 (o.exOk r2) fun b H3 S3 q3 g3 => ?_
  cases b with
  | true =>
    refine iteT ⟨fun σ' H' => ∃ m', m' < m ∧ ∃ ρ S, Rep F ρ σ' H' S ∧ I m' ρ, fun σ' H' h => h, ?_⟩
    exact sb _ ρ2 q3 F σ2 H3 S3 _ (r2.grow g3) ⟨fun ρ4 σ4 H4 S4 ⟨m', hm, q4⟩ r4 => ⟨m', hm, ρ4, S4, r4, q4⟩, o.rt, o.nx, fun ρ4 σ4 H4 S4 ⟨m', hm, q4⟩ r4 => ⟨m', hm, ρ4, S4, r4, q4⟩, o.ex⟩
  | false => exact iteF (o.nx ρ2 σ2 H3 S3 q3 (r2.grow g3))

/-! ### raise X('..') -/
structure ExcC (K : PySem.W.Frag) (mg : Str → Option Value) (n : Str) (C : Addr) : Prop where
  g : mg n = some (.ref C)
  x : PySem.W.excIn K C [.type "ValueError", .type "Exception", .type "BaseException", .type "object"] "ValueError.__new__" = true
  k : PySem.W.keepIn K (.ref C) = true
  b : PySem.W.subIn K (.ref C) (.type "BaseException") = some true
  t : PySem.W.typeIn K (.ref C) = some (.type "type")
def wsRaise (n : Str) : WS := fun q _ => q.ex n
theorem sd_raise {n m : Str} {C : Addr} {j : Nat} {p1 p2 p3 : Pos} (xk : XOk X E) (hc : X.calm = true) (c : ExcC X.K X.mg n C) (hg : Gl X n) (hdb : (n == ("__debug__" : Str)) = false := by decide) :
    SD X E (.Raise (some (.Call (.Name n p1) [.Constant (.str m) j p2] [] p3)) none pos) (wsRaise n) :=
  ⟨_, ps_raise hc xk.take (pmk_own PySem.F.excBase_ValueError c.x c.g c.k (raises_own c.b c.t) hg hdb), fun q ρ hw F σ H S D rp o => o.ex n C H S hw c.g rp.fg⟩
end

/-! ### a def by its body -/
def startE (n : Nat) (ds : List D) : Ev := ds.map .fz ++ List.replicate (n - ds.length) .un
theorem rep_start {H S : Hp} {N : List Str} {ds : List D} {vs : List V} (sh : Same S H) (h : Dats S ds vs) (hl : ds.length ≤ N.length) : Rep { H0 := H, S0 := S, M := fun _ => False } (startE N.length ds) (L2.start N vs) H S := by
  have hlen := h.len
  refine ⟨⟨fun _ _ _ e => e, fun _ e => e, .refl _, sh, fun _ _ => rfl⟩, ?_, fun i sl e => ?_, fun i j m m' c c' _ e _ => ?_⟩
  · unfold L2.start startE
    simp only [List.length_append, List.length_map, List.length_replicate]
    omega
  · unfold startE at e
    rcases Nat.lt_or_ge i ds.length with hi | hi
    · rw [List.getElem?_append_left (by simpa using hi), List.getElem?_map] at e
      cases q : ds[i]? with
      | none => rw [q] at e; cases e
      | some d =>
        rw [q] at e
        cases e
        obtain ⟨v, hv, hz⟩ := h.get q
        refine ⟨v, ?_, hz⟩
        unfold L2.start
        rw [List.getElem?_append_left (by rw [List.length_map, hlen]; exact hi), List.getElem?_map, hv]
        rfl
    · rw [List.getElem?_append_right (by simpa using hi), List.getElem?_replicate] at e
      split at e
      · cases e
        trivial
      · cases e
  · unfold startE at e
    rcases Nat.lt_or_ge i ds.length with hi | hi
    · rw [List.getElem?_append_left (by simpa using hi), List.getElem?_map] at e
      cases q : ds[i]? with
      | none => rw [q] at e; cases e
      | some d => rw [q] at e; cases e
    · rw [List.getElem?_append_right (by simpa using hi), List.getElem?_replicate] at e
      split at e
      · cases e
      · cases e
section
variable {P : Program} {w : World} {K : PySem.W.Frag} {mg : Str → Option Value} {base : Heap}
def endsOf (R : Rt → Prop) (x : XS) : DEnds := { nx := fun _ => R (.val .non), rt := fun r _ => R r, ex := x }
/-- the context of a def's body -/
abbrev cxF (P : Program) (w : World) (K : PySem.W.Frag) (mg : Str → Option Value) (base : Heap) (N : List Str) (qual : Str) (sc : Scope) (f : Addr) (cdv : Value) (A : Around) (outer : List Env) (s : Shared) (H : Hp) (E : XK) : Cx :=
  cxOf (L2.CX P w) P w K mg base N qual sc f cdv A outer s H E
theorem xk_fn {N : List Str} {qual : Str} {sc : Scope} {f : Addr} {cdv : Value} {A : Around} {outer : List Env} {s : Shared} {H : Hp} {E : XK} : XOk (cxF P w K mg base N qual sc f cdv A outer s H E) E := by
  have tk : Takes (cxF P w K mg base N qual sc f cdv A outer s H E) (fun cls d _ H => E cls d H) := takes_of rfl rfl rfl rfl
  exact ⟨passes_call tk fun _ _ _ _ h => h, tk, passes_of rfl⟩
theorem fn_ok {x qual : Str} {st : Stmt} {f : Addr} {fd : FuncData} {N ps : List Str} {k : Nat} {sp : Spec} (F : Fun K x qual st f fd) (S : FnScope N ps (defScope st)) (len : ∀ ds x R, sp ds x R → ds.length = ps.length)
    (hbody : ∀ (cdv : Value) (A : Around) (outer : List Env) (s : Shared) (H : Hp) (E : XK), Room k (A.deeper (envOfC qual (defScope st) s.heap.objs.size f cdv)) → XOk (cxF P w K mg base N qual (defScope st) f cdv A outer s H E) E →
      ∃ ws, SDs (cxF P w K mg base N qual (defScope st) f cdv A outer s H E) E (defBody st) ws ∧ ∀ ds x R, sp ds x R → ws (endsOf R x) (startE N.length ds)) :
    FnOk P w K mg base (L2.CX P w) (k + 1) f fd ps (spOf mg sp) := by
  have hpl : ps.length ≤ N.length := by
    have := congrArg List.length S.pre
    rw [List.length_take] at this
    omega
  refine F.okX S (fun vs H Q E h => ?_) (fun cdv A outer s H vs Q E hr h => ?_)
  · obtain ⟨ds, S, x, R, _, hd, hs, _⟩ := h
    rw [hd.len]
    exact len ds x R hs
  · obtain ⟨ds, S0, x, R, sh, hd, hs, k1, k2⟩ := h
    obtain ⟨ws, sd, pure⟩ := hbody cdv A outer s H E hr xk_fn
    obtain ⟨t, pt, so⟩ := sd.ex
    have hl : ds.length ≤ N.length := by rw [len ds x R hs]; exact hpl
    have gr : ∀ {H' S' : Hp}, FGrow { H0 := H, S0 := S0, M := fun _ => False } H' S' → Grow H S0 H' S' := fun f => ⟨fun a o e => f.hh a o (fun z => z) e, f.ss, f.sh, f.nw⟩
    refine ⟨t, pt, so _ _ (pure ds x R hs) _ _ H S0 _ (rep_start sh hd hl) ⟨fun ρ σ H' S' q r => k1 _ _ H' S' q (gr r.fg) (show Dat S' .non .non from .n), fun r ρ v σ H' S' q rp p => k1 r v H' S' q (gr rp.fg) p, fun _ _ _ _ z => z.elim, fun _ _ _ _ z => z.elim, fun n C H' S' h1 h2 h3 => k2 n C H' S' h1 h2 (gr h3)⟩⟩
end
end NL

namespace NL
open PySem PySem.Spec L2
open PyProof.Rows hiding St
variable [KC]

/-! ### a def that changes the list handed in first -/
structure GrowM (p : Addr) (H S H' S' : Hp) : Prop where
  hh : ∀ a o, a ≠ p → H a = some o → H' a = some o
  ss : Same S S'
  sh : Same S' H'
  nw : ∀ a, H a ≠ none → S' a = S a
theorem Rep.putM {F : Fr} {ρ : Ev} {σ : L2.St} {H S H' S' : Hp} {i : Nat} {m : Bool} {c c' : Cn} {p : Addr} {o' : HO} (r : Rep F ρ σ H S) (h : ρ[i]? = some (.own m c)) (hp : σ[i]? = some (some (.ref p))) (g : GrowM p H S H' S') (hH : H' p = some o') (hc : CnOk S' c' o') :
    Rep F (ρ.set i (.own m c')) σ H' S' := by
  obtain ⟨p', o1, e1, e2, e3, e4, e5, e6⟩ := r.own h
  have : p' = p := by
    rw [e1] at hp
    cases hp
    rfl
  subst this
  have hl : i < ρ.length := by
    rcases Nat.lt_or_ge i ρ.length with q | q
    · exact q
    · rw [List.getElem?_eq_none q] at h
      cases h
  have keep : ∀ a, H a ≠ none → H' a ≠ none := fun a ha => by
    by_cases z : a = p'
    · subst z
      rw [hH]
      intro z
      cases z
    · cases q : H a with
      | none => exact absurd q ha
      | some u =>
        rw [g.hh a u z q]
        intro z
        cases z
  refine ⟨⟨fun a u hm ha => ?_, fun a ha => keep a (r.fg.al a ha), r.fg.ss.trans g.ss, g.sh, fun a ha => (g.nw a (r.fg.al a ha)).trans (r.fg.nw a ha)⟩, by simp [r.len], fun j sl e => ?_, fun j k m1 m2 c1 c2 n q1 q2 => ?_⟩
  · have ne : a ≠ p' := fun z => by
      subst z
      cases m with
      | true => exact hm (e5 rfl)
      | false => rw [e6 rfl] at ha; cases ha
    exact g.hh a u ne (r.fg.hh a u hm ha)
  · by_cases z : i = j
    · subst z
      rw [List.getElem?_set_self hl] at e
      cases e
      exact ⟨p', o', hp, by rw [g.nw p' (by rw [e3]; intro z; cases z)]; exact e2, hH, hc, e5, e6⟩
    · rw [List.getElem?_set_ne z] at e
      have q := r.at' j sl e
      cases sl with
      | un => trivial
      | fz d =>
        obtain ⟨v, f1, f2⟩ := q
        exact ⟨v, f1, Dat.mono g.ss d v f2⟩
      | own m3 c3 =>
        obtain ⟨p3, o3, f1, f2, f3, f4, f5⟩ := q
        have ne : p3 ≠ p' := fun z3 => r.dist i j m m3 c c3 z h e (by rw [hp, f1, z3])
        exact ⟨p3, o3, f1, by rw [g.nw p3 (by rw [f3]; intro z; cases z)]; exact f2, g.hh _ _ ne f3, f4.mono g.ss, f5⟩
  · have conv : ∀ (l : Nat) (m4 : Bool) (c4 : Cn), (ρ.set i (.own m c'))[l]? = some (.own m4 c4) → ∃ m5 c5, ρ[l]? = some (.own m5 c5) := fun l m4 c4 q => by
      by_cases z : i = l
      · subst z
        exact ⟨m, c, h⟩
      · rw [List.getElem?_set_ne z] at q
        exact ⟨_, _, q⟩
    obtain ⟨_, _, w1⟩ := conv _ _ _ q1
    obtain ⟨_, _, w2⟩ := conv _ _ _ q2
    exact r.dist j k _ _ _ _ n w1 w2
/-- content, the other arguments, behind: content, what is told -/
abbrev SpecM := List D → List D → (List D → D → Prop) → Prop
def spOfM (sp : SpecM) : Sp := fun vs H Q _ => ∃ p us rest xs ds S R, vs = .ref p :: rest ∧ Same S H ∧ S p = none ∧ H p = some (.lst us) ∧ Dats S xs us ∧ Dats S ds rest ∧ sp xs ds R ∧
  (∀ ys d v H' S' ws, R ys d → GrowM p H S H' S' → H' p = some (.lst ws) → Dats S' ys ws → Dat S' d v → Q v H')
section
variable {P : Program} {w : World} {K : PySem.W.Frag} {mg : Str → Option Value} {base : Heap}
def endM (R : List D → D → Prop) (r : Rt) (ρ : Ev) : Prop := match r, (ρ[0]? : Option Sl) with
  | .val d, some (.own true (.lst ys)) => R ys d
  | _, _ => False
def endsM (R : List D → D → Prop) : DEnds where
  nx := endM R (.val .non)
  rt := endM R
  ex := fun _ => False
def startM (n : Nat) (xs ds : List D) : Ev := .own true (.lst xs) :: startE (n - 1) ds
theorem rep_startM {H S : Hp} {N : List Str} {ds xs : List D} {vs us : List V} {p : Addr} (sh : Same S H) (hS : S p = none) (hH : H p = some (.lst us)) (hx : Dats S xs us) (h : Dats S ds vs) (hl : ds.length + 1 ≤ N.length) :
    Rep { H0 := H, S0 := S, M := fun a => a = p } (startM N.length xs ds) (L2.start N (.ref p :: vs)) H S := by
  have hlen := h.len
  have st : L2.start N (.ref p :: vs) = some (.ref p) :: (vs.map some ++ List.replicate (N.length - (vs.length + 1)) none) := rfl
  refine ⟨⟨fun _ _ _ e => e, fun _ e => e, .refl _, sh, fun _ _ => rfl⟩, ?_, fun i sl e => ?_, fun i j m m' c c' ne e1 e2 => ?_⟩
  · rw [st]
    unfold startM startE
    simp only [List.length_append, List.length_map, List.length_replicate, List.length_cons]
    omega
  · rw [st]
    unfold startM startE at e
    cases i with
    | zero =>
      cases e
      exact ⟨p, _, rfl, hS, hH, ⟨us, rfl, hx⟩, fun _ => rfl, fun z => by cases z⟩
    | succ i =>
      rw [List.getElem?_cons_succ] at e ⊢
      rcases Nat.lt_or_ge i ds.length with hi | hi
      · rw [List.getElem?_append_left (by simpa using hi), List.getElem?_map] at e
        cases q : ds[i]? with
        | none => rw [q] at e; cases e
        | some d =>
          rw [q] at e
          cases e
          obtain ⟨v, hv, hz⟩ := h.get q
          refine ⟨v, ?_, hz⟩
          rw [List.getElem?_append_left (by rw [List.length_map, hlen]; exact hi), List.getElem?_map, hv]
          rfl
      · rw [List.getElem?_append_right (by simpa using hi), List.getElem?_replicate] at e
        split at e
        · cases e
          trivial
        · cases e
  · have only : ∀ (i : Nat) (m : Bool) (c : Cn), (startM N.length xs ds)[i]? = some (.own m c) → i = 0 := fun i m c e => by
      unfold startM startE at e
      cases i with
      | zero => rfl
      | succ i =>
        rw [List.getElem?_cons_succ] at e
        rcases Nat.lt_or_ge i ds.length with hi | hi
        · rw [List.getElem?_append_left (by simpa using hi), List.getElem?_map] at e
          cases q : ds[i]? with
          | none => rw [q] at e; cases e
          | some d => rw [q] at e; cases e
        · rw [List.getElem?_append_right (by simpa using hi), List.getElem?_replicate] at e
          split at e
          · cases e
          · cases e
    exact absurd ((only i m c e1).trans (only j m' c' e2).symm) ne
theorem fn_okM {x qual : Str} {st : Stmt} {f : Addr} {fd : FuncData} {N ps : List Str} {k : Nat} {sp : SpecM} (F : Fun K x qual st f fd) (S : FnScope N ps (defScope st)) (len : ∀ xs ds R, sp xs ds R → ds.length + 1 = ps.length)
    (hbody : ∀ (cdv : Value) (A : Around) (outer : List Env) (s : Shared) (H : Hp) (E : XK), Room k (A.deeper (envOfC qual (defScope st) s.heap.objs.size f cdv)) → XOk (cxF P w K mg base N qual (defScope st) f cdv A outer s H E) E →
      ∃ ws, SDs (cxF P w K mg base N qual (defScope st) f cdv A outer s H E) E (defBody st) ws ∧ ∀ xs ds R, sp xs ds R → ws (endsM R) (startM N.length xs ds)) :
    FnOk P w K mg base (L2.CX P w) (k + 1) f fd ps (spOfM sp) := by
  have hpl : ps.length ≤ N.length := by
    have := congrArg List.length S.pre
    rw [List.length_take] at this
    omega
  refine F.okX S (fun vs H Q E h => ?_) (fun cdv A outer s H vs Q E hr h => ?_)
  · obtain ⟨p, us, rest, xs, ds, S0, R, rfl, _, _, _, _, hd, hs, _⟩ := h
    rw [List.length_cons, hd.len]
    exact len xs ds R hs
  · obtain ⟨p, us, rest, xs, ds, S0, R, rfl, sh, hS, hH, hx, hd, hs, k1⟩ := h
    obtain ⟨ws, sd, pure⟩ := hbody cdv A outer s H E hr xk_fn
    obtain ⟨t, pt, so⟩ := sd.ex
    have hl : ds.length + 1 ≤ N.length := by rw [len xs ds R hs]; exact hpl
    have fin : ∀ {ρ : Ev} {σ : L2.St} {H' S' : Hp} {ys : List D} {d : D} {v : V}, Rep { H0 := H, S0 := S0, M := fun a => a = p } ρ σ H' S' → ρ[0]? = some (.own true (.lst ys)) → R ys d → Dat S' d v → Q v H' := fun {ρ σ H' S' ys d v} r h0 q hd => by
      obtain ⟨p', o, e1, e2, e3, ⟨ws, rfl, e4⟩, e5, _⟩ := r.own h0
      have : p' = p := e5 rfl
      subst this
      exact k1 ys d v H' S' ws q ⟨fun a o n e => r.fg.hh a o n e, r.fg.ss, r.fg.sh, r.fg.nw⟩ e3 e4 hd
    refine ⟨t, pt, so _ _ (pure xs ds R hs) _ _ H S0 _ (rep_startM sh hS hH hx hd hl) ⟨fun ρ σ H' S' q r => ?_, fun r ρ v σ H' S' q rp pp => ?_, fun _ _ _ _ z => z.elim, fun _ _ _ _ z => z.elim, fun n C H' S' h1 h2 h3 => h1.elim⟩⟩
    · simp only [endsM, endM] at q
      split at q
      · rename_i d ys h1 h0
        cases h1
        exact fin (v := .non) r h0 q (show Dat S' .non .non from .n)
      · exact q.elim
    · simp only [endsM, endM] at q
      split at q
      · rename_i d ys h0
        exact fin rp h0 q pp
      · exact q.elim
end
section
variable {X : Cx} {E : XK} {e a b : Expr} {es : List Expr} {pos : Pos} {w wa wb we : WE} {wl : WL} {k : Nat} {f : Addr} {fd : FuncData} {ps : List Str} {sp : SpecM} {x y : Str} {p p1 mpos : Pos}
def AskM (sp : SpecM) (xs ds : List D) (K : List D → D → Prop) (_ : Tg K) : Prop := sp xs ds K
def wsCallM (i : Nat) (sp : SpecM) (wl : WL) : WS := fun q ρ => match ρ[i]? with
  | some (.own m (.lst xs)) => wl q.ex ρ fun ds => AskM sp xs ds (fun ys _ => q.nx (ρ.set i (.own m (.lst ys)))) ⟨⟩
  | _ => False
/-- f(l, ..) as a statement, l a slot's own list that f changes -/
theorem sd_callM (i : Nat) (G : FnOk X.prog X.w X.K X.mg X.base (L2.CX X.prog X.w) k f fd ps (spOfM sp)) (hr : Room k X.A) (xk : XOk X E) (hg : Gl X x) (hm : X.mg x = some (.ref f)) (hk : PySem.W.keepIn X.K (.ref f) = true) (hb : Binds X.K fd ps [])
    (ha : AD X E es wl) (hN : X.N[i]? = some y := by rfl) (hv : Vis X.env.scope y := by first | exact Or.inl rfl | exact Or.inr (Or.inl rfl) | exact Or.inr (Or.inr rfl)) (hd : (y == ("__debug__" : Str)) = false := by decide) (hcd : (y == ("__classdict__" : Str)) = false := by decide)
    (hdb : (x == ("__debug__" : Str)) = false := by decide) (he : starEach (.Name y p1 :: es) X.env = (false, eval (.Name y p1) X.env) :: starEach es X.env := by rfl) (hpl : (backTo mpos (starEach es X.env)).any (·.1) = false := by rfl)
    (hs : swapsWith (.Call (.Name x p) (.Name y p1 :: es) [] mpos) none pos.line X.env = pure false := by rfl) :
    SD X E (.Expr (.Call (.Name x p) (.Name y p1 :: es) [] mpos) pos) (wsCallM i sp wl) := by
  obtain ⟨t, pt, s⟩ := ha.ex
  have px : Passes (L2.CX X.prog X.w) X E := xk.pass
  refine ⟨_, ps_expr (pe_call G hr hg hm hk hb .nil px (pa_cons (pe_var hN hv hd hcd) pt he) hdb he hpl) hs, fun q ρ hw F σ H S D rp o => ?_⟩
  unfold wsCallM at hw
  split at hw
  · rename_i m xs hi
    obtain ⟨l, u, e, h1, h2, ⟨us, rfl, h3⟩, _⟩ := rp.own hi
    refine ⟨.ref l, e, ?_⟩
    refine s q.ex ρ _ hw F σ H S _ rp (o.exOk rp) fun ds vs H1 S1 q1 g1 hd => ?_
    have rp1 := rp.grow g1
    refine ⟨l, us, vs, xs, ds, S1, _, by rw [List.append_nil], g1.sh, by rw [g1.nw l (by rw [h2]; intro z; cases z)]; exact h1, g1.hh _ _ h2, Dats.mono g1.ss _ _ h3, hd, q1, fun ys d v H2 S2 ws q2 g2 z1 z2 z3 => ?_⟩
    exact o.nx _ _ H2 S2 q2 (rp1.putM hi e g2 z1 ⟨ws, rfl, z2⟩)
  · exact hw.elim
/-- x = x + l.pop()[c] : ints -/
def wsPopAdd (j i : Nat) (c : Int) : WS := fun q ρ => match ρ[j]?, ρ[i]? with
  | some (.fz (.int n)), some (.own m (.lst xs)) => ∃ ds k, xs.getLast? = some (.tup ds) ∧ atI ds c = some (.int k) ∧ q.nx ((ρ.set i (.own m (.lst xs.dropLast))).set j (.fz (.int (n + k))))
  | _, _ => False
theorem sd_popAdd (j i : Nat) {c : Int} {jj : Nat} {p2 p3 p4 p5 p6 p7 p8 : Pos} (hN : X.N.Nodup) (hj : X.N[j]? = some x := by rfl) (hi : X.N[i]? = some y := by rfl) (hx : Loc X.env.scope x := by first | exact Or.inl rfl | exact Or.inr rfl) (hvx : Vis X.env.scope x := by first | exact Or.inl rfl | exact Or.inr (Or.inl rfl) | exact Or.inr (Or.inr rfl))
    (hvy : Vis X.env.scope y := by first | exact Or.inl rfl | exact Or.inr (Or.inl rfl) | exact Or.inr (Or.inr rfl)) (hd : (x == ("__debug__" : Str)) = false := by decide) (hcd : (x == ("__classdict__" : Str)) = false := by decide) (hdy : (y == ("__debug__" : Str)) = false := by decide) (hcdy : (y == ("__classdict__" : Str)) = false := by decide)
    (hf : X.fn x = true ∨ X.env.scope.names.lookup x = some .local := by first | exact .inl rfl | exact .inr rfl) (hij : i ≠ j := by decide)
    (hbase : attributeBase (.Name y p4) "pop" X.env (eval (.Name y p4) X.env) = eval (.Name y p4) X.env := by rfl) (hline : (p5.endLine == p6.line) = true := by rfl)
    (hs : swapsWith (.BinOp (.Name x p2) .Add (.Subscript (.Call (.Attribute (.Name y p4) "pop" p5) [] [] p6) (.Constant (.int c) jj p7) p8) p3) (some (.Name x p1)) pos.line X.env = pure false := by rfl) :
    SD X E (.Assign [.Name x p1] (.BinOp (.Name x p2) .Add (.Subscript (.Call (.Attribute (.Name y p4) "pop" p5) [] [] p6) (.Constant (.int c) jj p7) p8) p3) pos) (wsPopAdd j i c) := by
  refine ⟨_, ps_set hN hj hx (pe_op op_add (pe_var hj hvx hd hcd) (pe_ix ix_tup (pe_bm0 PySem.F.plainAttrs_list PySem.F.slot_list_pop PySem.F.type_list_pop mt_pop (pe_var hi hvy hdy hcdy) hbase hline) pe_int fun _ _ => rfl)) hs hf, fun q ρ hw F σ H S D rp o => ?_⟩
  unfold wsPopAdd at hw
  split at hw
  · rename_i n m xs ej ei
    obtain ⟨ds, k, e1, e2, q1⟩ := hw
    obtain ⟨v, ev, hv⟩ := rp.fz ej
    unfold Dat at hv
    subst hv
    obtain ⟨l, u, el, h1, h2, ⟨us, rfl, h3⟩, _⟩ := rp.own ei
    have hne : xs ≠ [] := fun z => by rw [z] at e1; cases e1
    have hpos := List.length_pos_iff.mpr hne
    have hlen := h3.len
    have e1' : xs[us.length - 1]? = some (.tup ds) := by rw [hlen, ← List.getLast?_eq_getElem?]; exact e1
    obtain ⟨y, hy, hz⟩ := h3.get e1'
    unfold Dat at hz
    obtain ⟨a, ws, rfl, ra, hw⟩ := hz
    obtain ⟨z, hz1, hz2⟩ := atI_dats hw e2
    unfold Dat at hz2
    subst hz2
    have ne : a ≠ l := fun z => by
      have := rp.sh _ _ ra
      rw [z, h2] at this
      cases this
    refine ⟨.int n, ev, .ref l, el, .inl ⟨rfl, us, .of h2⟩, l, us, .ref a, rfl, rfl, h2, hy, a, ws, c, .int k, rfl, rfl, .of ?_, hz1, n, k, rfl, rfl, ?_⟩
    · rw [upd_ne ne]
      exact rp.sh _ _ ra
    · exact o.nx _ _ _ S q1 ((rp.put (c' := .lst xs.dropLast) (o' := .lst us.dropLast) ei el ⟨_, rfl, h3.dropLast⟩).set .i)
  · exact hw.elim
end
end NL

namespace NL
open PySem PySem.Spec L2
open PyProof.Rows hiding St
variable [KC]
section
variable {X : Cx} {E : XK} {b e : Expr} {w wb : WE} {x : Str} {p pos : Pos}
omit [KC] in
theorem ixN_at {n j : Nat} (hj : j < n) : ixN n (j : Int) = some j := by
  unfold ixN
  simp only [Int.natCast_nonneg, if_true, Int.toNat_natCast]
  exact if_pos (by omega)
theorem get_list : PGet X (rIxL X.K) := by
  intro pins s σ H x y v u Q I rx ry h
  obtain ⟨p, xs, i, z, rfl, rfl, hq, he, q⟩ := h
  cases rx
  obtain ⟨t, rfl⟩ := ry
  obtain ⟨its, r, pl, hz⟩ := I.list hq
  obtain ⟨j, h1, h2, h3, h4, h5⟩ := atI_get he
  obtain ⟨w, ew, rw'⟩ := r.get h2
  have hl := r.length
  have hn := line63
  have fin : EP X pins σ Q w s := ⟨z, H, I, rw', q⟩
  by_cases h0 : 0 ≤ i
  · have hj : i.toNat = j := by
      rw [seqIndex_of h0 h5] at h1
      exact Option.some.inj h1
    exact wpAny_getItem_list pl.isList h0 (by omega) (by rw [hj]; simpa using ew) fin
  · have hj : (i + (its.toArray.size : Int)).toNat = j := by
      rw [seqIndex_neg (by omega) h4] at h1
      rw [List.size_toArray, ← hl]
      exact Option.some.inj h1
    exact wpAny_getItem_list_neg pl.isList (by omega) (by rw [List.size_toArray] <;> omega) (by omega) (by rw [hj]; simpa using ew) fin
/-- l[k] op= e, l a slot's own list -/
def wsAugIx (i : Nat) (g : D → D → (D → Prop) → Prop) (wb w : WE) : WS := fun q ρ => match ρ[i]? with
  | some (.own m (.lst xs)) => wb q.ex ρ fun k => match k with
    | .int k => ∃ (j : Nat) (d : D), k = (j : Int) ∧ xs[j]? = some d ∧ w q.ex ρ fun e => g d e fun z => q.nx (ρ.set i (.own m (.lst (xs.set j z))))
    | _ => False
  | _ => False
theorem sd_augIx (i : Nat) {tpos : Pos} {op : Operator} {g : D → D → (D → Prop) → Prop} (ho : PipD X op g) (hb : ED X E b wb) (he : ED X E e w) (hN : X.N[i]? = some x := by rfl) (hv : Vis X.env.scope x := by first | exact Or.inl rfl | exact Or.inr (Or.inl rfl) | exact Or.inr (Or.inr rfl))
    (hd : (x == ("__debug__" : Str)) = false := by decide) (hcd : (x == ("__classdict__" : Str)) = false := by decide)
    (ha : ∀ ov iv new, augStore b ov iv new = (do holding [new, ov, iv] (setItem ov iv new); release [new, ov, iv] []; pure .next) := by intros; rfl) :
    SD X E (.AugAssign (.Subscript (.Name x p) b tpos) op e pos) (wsAugIx i g wb w) := by
  obtain ⟨t, pe, s⟩ := he.ex
  obtain ⟨tb, pb, sb⟩ := hb.ex
  obtain ⟨r, pi, si⟩ := ho.ex
  refine ⟨_, ps_augS (pe_var hN hv hd hcd) pb get_list pe pi set_list ha, fun q ρ hw F σ H S D rp o => ?_⟩
  unfold wsAugIx at hw
  split at hw
  · rename_i m xs hi
    obtain ⟨l, u, e, z1, z2, ⟨us, rfl, z3⟩, _⟩ := rp.own hi
    refine ⟨.ref l, e, sb q.ex ρ _ hw F σ H S _ rp (o.exOk rp) fun k kv H1 S1 q1 g1 h1 => ?_⟩
    cases k with
    | int k =>
      unfold Dat at h1
      subst h1
      obtain ⟨j, d, rfl, hdj, q1⟩ := q1
      have rp1 := rp.grow g1
      have z31 := Dats.mono g1.ss _ _ z3
      obtain ⟨y, hy, hz⟩ := z31.get hdj
      have hj : j < us.length := (List.getElem?_eq_some_iff.mp hy).1
      refine ⟨l, us, (j : Int), y, rfl, rfl, .of (g1.hh _ _ z2), atI_nat hy, ?_⟩
      refine s q.ex ρ _ q1 F σ H1 S1 _ rp1 (o.exOk rp1) fun e' v' H2 S2 q2 g2 h2 => ?_
      refine si d e' _ q2 H2 S2 y v' _ (rp1.grow g2).sh (Dat.mono g2.ss _ _ hz) h2 fun z' y' q3 h3 => ?_
      exact ⟨l, us, (j : Int), j, rfl, rfl, g2.hh _ _ (g1.hh _ _ z2), ixN_at hj, o.nx _ _ _ S2 q3 ((rp1.grow g2).put hi e ⟨_, rfl, (Dats.mono g2.ss _ _ z31).set j h3⟩)⟩
    | _ => exact q1.elim
  · exact hw.elim
/-- sep.join(texts) -/
def gJoin (a : Str) : D → (D → Prop) → Prop
  | .lst ds, Q => ∃ ys : List Str, ds = ys.map D.str ∧ (ys.map (·.length)).sum + ys.length * a.length ≤ 16777216 ∧ Q (.str (Txt.join a ys))
  | _, _ => False
def wJoin (wa wb : WE) : WE := fun x ρ Q => wa x ρ fun d => match d with
  | .str a => wb x ρ fun e => gJoin a e Q
  | _ => False
theorem ed_join {a : Expr} {wa : WE} {apos : Pos} (ha : BD X E a wa) (hb : BD X E b wb) (hs : starEach [b] X.env = [(false, eval b X.env)] := by rfl) (hbase : attributeBase a "join" X.env (eval a X.env) = eval a X.env := by rfl) (hline : (apos.endLine == pos.line) = true := by rfl) :
    ED X E (.Call (.Attribute a "join" apos) [b] [] pos) (wJoin wa wb) := by
  obtain ⟨ta, pa, sa⟩ := ha.ex
  obtain ⟨tb, pb, sb⟩ := hb.ex
  refine ⟨_, pe_join pa pb hs hbase hline, fun x ρ Q hw F σ H S Q' rp ex k => ?_⟩
  refine sa x ρ _ hw F σ H S _ rp ex fun d u H1 S1 q1 g1 h1 => ?_
  cases d with
  | str a =>
    cases h1.s
    refine ⟨⟨a, rfl⟩, sb x ρ _ q1 F σ H1 S1 _ (rp.grow g1) (ex.grow g1) fun e v H2 S2 q2 g2 h2 => ?_⟩
    cases e with
    | lst ds =>
      obtain ⟨ys, rfl, hz, q2⟩ := q2
      obtain ⟨l, vs, rfl, r, z⟩ := h2
      have := z.ofStrs
      subst this
      exact ⟨a, l, ys, rfl, rfl, .inl (.of r), hz, k _ _ H2 S2 q2 (g1.trans g2) .s⟩
    | _ => exact q2.elim
  | _ => exact q1.elim
end
/-- a promise that is never asked -/
theorem fn_no {P : Program} {w : World} {K : PySem.W.Frag} {mg : Str → Option Value} {base : Heap} {k : Nat} {f : Addr} {fd : FuncData} {ps : List Str} {sp : Spec} (h : ∀ ds x R, ¬ sp ds x R) :
    FnOk P w K mg base (L2.CX P w) k f fd ps (spOf mg sp) :=
  ⟨fun _ _ _ _ ⟨_, _, _, _, _, _, hs, _⟩ => (h _ _ _ hs).elim, fun _ _ _ _ _ _ _ _ _ _ _ _ _ ⟨_, _, _, _, _, _, hs, _⟩ => (h _ _ _ hs).elim⟩
/-! a module's own texts and numbers -/
section
variable {X : Cx} {E : XK} {x : Str} {p : Pos}
theorem ed_globS {s : Str} (hg : Gl X x) (h : ∃ t, X.mg x = some (.str s t)) (hd : (x == ("__debug__" : Str)) = false := by decide) : ED X E (.Name x p) (wC (.str s)) := by
  obtain ⟨t, h⟩ := h
  exact ed_glob (v := .str s) hg h ⟨t, rfl⟩ (fun _ => Dat.s) hd
theorem ed_globI {s : Int} (hg : Gl X x) (h : ∃ t, X.mg x = some (.int s t)) (hd : (x == ("__debug__" : Str)) = false := by decide) : ED X E (.Name x p) (wC (.int s)) := by
  obtain ⟨t, h⟩ := h
  exact ed_glob (v := .int s) hg h ⟨t, rfl⟩ (fun _ => Dat.i) hd
end
/-! sum, any, all over a list -/
section
variable {X : Cx}
def gSum : List D → (D → Prop) → Prop
  | [.lst ds], Q => ∃ ns : List Int, ds = ns.map D.int ∧ Q (.int ns.sum)
  | _, _ => False
theorem cSum (hc : X.calm = true) : CalD X (.builtin "sum") gSum := by
  refine ⟨_, cr_sum hc, fun ds Q h H S vs Q' sh hd k => ?_⟩
  unfold gSum at h
  split at h
  · obtain ⟨ns, rfl, q⟩ := h
    obtain ⟨v, rfl, hz⟩ := hd.one
    obtain ⟨a, ws, rfl, r, z⟩ := hz
    have := z.ofInts
    subst this
    exact ⟨a, ns, rfl, .of r, k _ _ H S q (.refl sh) .i⟩
  · exact h.elim
def gAny : List D → (D → Prop) → Prop
  | [.lst ds], Q => ∃ bs : List Bool, ds = bs.map D.bl ∧ Q (.bl (bs.any id))
  | _, _ => False
theorem cAny (hc : X.calm = true) : CalD X (.builtin "any") gAny := by
  refine ⟨_, cr_any hc, fun ds Q h H S vs Q' sh hd k => ?_⟩
  unfold gAny at h
  split at h
  · obtain ⟨ns, rfl, q⟩ := h
    obtain ⟨v, rfl, hz⟩ := hd.one
    obtain ⟨a, ws, rfl, r, z⟩ := hz
    have := z.ofBls
    subst this
    exact ⟨a, ns, rfl, .of r, k _ _ H S q (.refl sh) .b⟩
  · exact h.elim
def gAll : List D → (D → Prop) → Prop
  | [.lst ds], Q => ∃ bs : List Bool, ds = bs.map D.bl ∧ Q (.bl (bs.all id))
  | _, _ => False
theorem cAll (hc : X.calm = true) : CalD X (.builtin "all") gAll := by
  refine ⟨_, cr_all hc, fun ds Q h H S vs Q' sh hd k => ?_⟩
  unfold gAll at h
  split at h
  · obtain ⟨ns, rfl, q⟩ := h
    obtain ⟨v, rfl, hz⟩ := hd.one
    obtain ⟨a, ws, rfl, r, z⟩ := hz
    have := z.ofBls
    subst this
    exact ⟨a, ns, rfl, .of r, k _ _ H S q (.refl sh) .b⟩
  · exact h.elim
end
end NL

/-! Expressions with an effect: a def that changes a slot's own list and tells a value. -/
namespace NL
open PySem PySem.Spec L2
open PyProof.Rows hiding St
variable [KC]
abbrev WM := XS → Ev → (D → Ev → Prop) → Prop
structure EM (X : Cx) (E : XK) (e : Expr) (w : WM) : Prop where
  ex : ∃ t : TE, PE X e t ∧ ∀ (x : XS) (ρ : Ev) (Q : D → Ev → Prop), w x ρ Q → ∀ (F : Fr) (σ : L2.St) (H S : Hp) (Q' : VK), Rep F ρ σ H S → (∀ ρ H S, Rep F ρ σ H S → ExOk X.mg E x H S) →
    (∀ d v ρ' H' S', Q d ρ' → Rep F ρ' σ H' S' → Same S S' → Dat S' d v → Q' v H') → t σ H Q'
section
variable {X : Cx} {E : XK} {e a b : Expr} {es : List Expr} {pos : Pos} {w wa wb : WE} {wm : WM} {wl : WL} {ws : WS} {k : Nat} {f : Addr} {fd : FuncData} {ps : List Str} {sp : SpecM} {x y : Str} {p p1 mpos : Pos}
def wmCall (i : Nat) (sp : SpecM) (wl : WL) : WM := fun x ρ Q => match ρ[i]? with
  | some (.own m (.lst xs)) => wl x ρ fun ds => AskM sp xs ds (fun ys d => Q d (ρ.set i (.own m (.lst ys)))) ⟨⟩
  | _ => False
theorem em_call (i : Nat) (G : FnOk X.prog X.w X.K X.mg X.base (L2.CX X.prog X.w) k f fd ps (spOfM sp)) (hr : Room k X.A) (xk : XOk X E) (hg : Gl X x) (hm : X.mg x = some (.ref f)) (hk : PySem.W.keepIn X.K (.ref f) = true) (hb : Binds X.K fd ps [])
    (ha : AD X E es wl) (hN : X.N[i]? = some y := by rfl) (hv : Vis X.env.scope y := by first | exact Or.inl rfl | exact Or.inr (Or.inl rfl) | exact Or.inr (Or.inr rfl)) (hd : (y == ("__debug__" : Str)) = false := by decide) (hcd : (y == ("__classdict__" : Str)) = false := by decide)
    (hdb : (x == ("__debug__" : Str)) = false := by decide) (he : starEach (.Name y p1 :: es) X.env = (false, eval (.Name y p1) X.env) :: starEach es X.env := by rfl) (hpl : (backTo mpos (starEach es X.env)).any (·.1) = false := by rfl) :
    EM X E (.Call (.Name x p) (.Name y p1 :: es) [] mpos) (wmCall i sp wl) := by
  obtain ⟨t, pt, s⟩ := ha.ex
  have px : Passes (L2.CX X.prog X.w) X E := xk.pass
  refine ⟨_, pe_call G hr hg hm hk hb .nil px (pa_cons (pe_var hN hv hd hcd) pt he) hdb he hpl, fun x ρ Q hw F σ H S Q' rp ex k => ?_⟩
  unfold wmCall at hw
  split at hw
  · rename_i m xs hi
    obtain ⟨l, u, e, h1, h2, ⟨us, rfl, h3⟩, _⟩ := rp.own hi
    refine ⟨.ref l, e, ?_⟩
    refine s x ρ _ hw F σ H S _ rp (ex _ _ _ rp) fun ds vs H1 S1 q1 g1 hd => ?_
    have rp1 := rp.grow g1
    refine ⟨l, us, vs, xs, ds, S1, _, by rw [List.append_nil], g1.sh, by rw [g1.nw l (by rw [h2]; intro z; cases z)]; exact h1, g1.hh _ _ h2, Dats.mono g1.ss _ _ h3, hd, q1, fun ys d v H2 S2 ws q2 g2 z1 z2 z3 => ?_⟩
    exact k d v _ H2 S2 q2 (rp1.putM hi e g2 z1 ⟨ws, rfl, z2⟩) (g1.ss.trans g2.ss) z3
  · exact hw.elim
def wmOpL (g : D → D → (D → Prop) → Prop) (wm : WM) (wb : WE) : WM := fun x ρ Q => wm x ρ fun d ρ1 => wb x ρ1 fun e => g d e fun z => Q z ρ1
theorem em_opL {op : Operator} {g : D → D → (D → Prop) → Prop} (ho : OpD X (binaryOp op) g) (ha : EM X E a wm) (hb : ED X E b wb) : EM X E (.BinOp a op b pos) (wmOpL g wm wb) := by
  obtain ⟨r, o, so⟩ := ho.ex
  obtain ⟨ta, pa, sa⟩ := ha.ex
  obtain ⟨tb, pb, sb⟩ := hb.ex
  refine ⟨_, pe_op o pa pb, fun x ρ Q hw F σ H S Q' rp ex k => ?_⟩
  refine sa x ρ _ hw F σ H S _ rp ex fun d u ρ1 H1 S1 q1 r1 e1 h1 => ?_
  refine sb x ρ1 _ q1 F σ H1 S1 _ r1 (ex _ _ _ r1) fun e v H2 S2 q2 g2 h2 => ?_
  refine so d e _ q2 H2 S2 u v Q' g2.sh (BDat.of g2.sh (Dat.mono g2.ss _ _ h1)) (BDat.of g2.sh h2) fun z y H3 S3 q3 g3 h3 => ?_
  exact k z y ρ1 H3 S3 q3 ((r1.grow g2).grow g3) ((e1.trans g2.ss).trans g3.ss) h3
def wmOpR (g : D → D → (D → Prop) → Prop) (wa : WE) (wm : WM) : WM := fun x ρ Q => wa x ρ fun d => wm x ρ fun e ρ1 => g d e fun z => Q z ρ1
theorem em_opR {op : Operator} {g : D → D → (D → Prop) → Prop} (ho : OpD X (binaryOp op) g) (ha : ED X E a wa) (hb : EM X E b wm) : EM X E (.BinOp a op b pos) (wmOpR g wa wm) := by
  obtain ⟨r, o, so⟩ := ho.ex
  obtain ⟨ta, pa, sa⟩ := ha.ex
  obtain ⟨tb, pb, sb⟩ := hb.ex
  refine ⟨_, pe_op o pa pb, fun x ρ Q hw F σ H S Q' rp ex k => ?_⟩
  refine sa x ρ _ hw F σ H S _ rp (ex _ _ _ rp) fun d u H1 S1 q1 g1 h1 => ?_
  refine sb x ρ _ q1 F σ H1 S1 _ (rp.grow g1) ex fun e v ρ1 H2 S2 q2 r2 e2 h2 => ?_
  refine so d e _ q2 H2 S2 u v Q' r2.sh (BDat.of r2.sh (Dat.mono e2 _ _ h1)) (BDat.of r2.sh h2) fun z y H3 S3 q3 g3 h3 => ?_
  exact k z y ρ1 H3 S3 q3 (r2.grow g3) ((g1.ss.trans e2).trans g3.ss) h3
def wmIxR (wa : WE) (wm : WM) : WM := fun x ρ Q => wa x ρ fun d => wm x ρ fun e ρ1 => match d, e with
  | .str z, .int i => z.length ≤ sizeLine ∧ ∃ c, atI z.cps.toList i = some c ∧ Q (.str ⟨#[c]⟩) ρ1
  | .lst xs, .int i => ∃ d, atI xs i = some d ∧ Q d ρ1
  | _, _ => False
theorem em_ixR (ha : ED X E a wa) (hb : EM X E b wm) (hs : PlainIx b := by exact fun _ _ => rfl) : EM X E (.Subscript a b pos) (wmIxR wa wm) := by
  obtain ⟨ta, pa, sa⟩ := ha.ex
  obtain ⟨tb, pb, sb⟩ := hb.ex
  refine ⟨_, pe_ix (ix_str.or ix_list) pa pb hs, fun x ρ Q hw F σ H S Q' rp ex k => ?_⟩
  refine sa x ρ _ hw F σ H S _ rp (ex _ _ _ rp) fun d u H1 S1 q1 g1 h1 => ?_
  refine sb x ρ _ q1 F σ H1 S1 _ (rp.grow g1) ex fun e v ρ1 H2 S2 q2 r2 e2 h2 => ?_
  have h1 := Dat.mono e2 _ _ h1
  split at q2
  · obtain ⟨hz, c, hc, q⟩ := q2
    unfold Dat at h1 h2
    subst h1 h2
    exact .inl ⟨_, _, c, rfl, rfl, hz, hc, k _ _ ρ1 H2 S2 q r2 (g1.ss.trans e2) .s⟩
  · obtain ⟨d, hd, q⟩ := q2
    unfold Dat at h1 h2
    subst h2
    obtain ⟨p, vs, rfl, r, z⟩ := h1
    obtain ⟨y, hy, hz⟩ := atI_dats z hd
    exact .inr ⟨p, vs, _, y, rfl, rfl, .of (r2.sh _ _ r), hy, k _ _ ρ1 H2 S2 q r2 (g1.ss.trans e2) hz⟩
  · exact q2.elim
def wmTup2 (wa : WE) (wm : WM) : WM := fun x ρ Q => wa x ρ fun d => wm x ρ fun e ρ1 => Q (.tup [d, e]) ρ1
theorem em_tup2 {k1} (ha : ED X E a wa) (hb : EM X E b wm) (he : starEach (a :: [b]) X.env = (false, eval a X.env) :: starEach [b] X.env := by rfl) (he2 : starEach (b :: []) X.env = (false, eval b X.env) :: starEach [] X.env := by rfl) :
    EM X E (.Tuple [a, b] k1 pos) (wmTup2 wa wm) := by
  obtain ⟨ta, pa, sa⟩ := ha.ex
  obtain ⟨tb, pb, sb⟩ := hb.ex
  refine ⟨_, pe_tup (pa_cons pa (pa_cons pb pa_nil he2) he), fun x ρ Q hw F σ H S Q' rp ex k => ?_⟩
  refine sa x ρ _ hw F σ H S _ rp (ex _ _ _ rp) fun d u H1 S1 q1 g1 h1 => ?_
  refine sb x ρ _ q1 F σ H1 S1 _ (rp.grow g1) ex fun e v ρ1 H2 S2 q2 r2 e2 h2 => ⟨(by decide : 2 ≤ 16777216), fun p hp => ?_⟩
  obtain ⟨g, y⟩ := lay_tup r2.sh hp (Dats.cons (Dat.mono e2 _ _ h1) (.one h2))
  exact k _ _ ρ1 _ _ q2 (r2.grow g) ((g1.ss.trans e2).trans g.ss) y
def wsSetM (i : Nat) (wm : WM) : WS := fun q ρ => wm q.ex ρ fun d ρ1 => q.nx (ρ1.set i (.fz d))
theorem sd_setM (i : Nat) (hN : X.N.Nodup) (he : EM X E e wm) (hi : X.N[i]? = some x := by rfl) (hx : Loc X.env.scope x := by first | exact Or.inl rfl | exact Or.inr rfl) (hs : swapsWith e (some (.Name x p)) pos.line X.env = pure false := by rfl)
    (hf : X.fn x = true ∨ X.env.scope.names.lookup x = some .local := by first | exact .inl rfl | exact .inr rfl) : SD X E (.Assign [.Name x p] e pos) (wsSetM i wm) := by
  obtain ⟨t, pe, s⟩ := he.ex
  refine ⟨_, ps_set hN hi hx pe hs hf, fun q ρ hw F σ H S D rp o => ?_⟩
  exact s q.ex ρ _ hw F σ H S _ rp (fun _ _ _ r => o.exOk r) fun d v ρ1 H1 S1 q1 r1 e1 h1 => o.nx _ _ H1 S1 q1 (r1.set h1)
/-- l.append(e), l a slot's own list, e with an effect on another one -/
def wsAppM (i : Nat) (wm : WM) : WS := fun q ρ => match ρ[i]? with
  | some (.own _ (.lst _)) => wm q.ex ρ fun d ρ1 => match ρ1[i]? with
    | some (.own m (.lst xs)) => xs.length < sizeLine ∧ q.nx (ρ1.set i (.own m (.lst (xs ++ [d]))))
    | _ => False
  | _ => False
theorem sd_appM (i : Nat) {apos : Pos} (ha : EM X E e wm)
    (hN : X.N[i]? = some x := by rfl) (hv : Vis X.env.scope x := by first | exact Or.inl rfl | exact Or.inr (Or.inl rfl) | exact Or.inr (Or.inr rfl)) (hd : (x == ("__debug__" : Str)) = false := by decide) (hcd : (x == ("__classdict__" : Str)) = false := by decide)
    (hbase : attributeBase (.Name x p) "append" X.env (eval (.Name x p) X.env) = eval (.Name x p) X.env := by rfl)
    (hfew : ((backTo mpos (starEach (e :: []) X.env)).all (fun x => !x.1) && (backToKw mpos (keywordEach [] X.env)).all (fun x => x.1.isSome)
      && decide ((e :: ([] : List Expr)).length + ([] : List Keyword).length + (if ([] : List Keyword).isEmpty then 0 else 1) < 30)) = true := by rfl)
    (hline : (apos.endLine == mpos.line) = true := by rfl) (hst : starEach (e :: []) X.env = (false, eval e X.env) :: starEach [] X.env := by rfl) (hplain : (backTo mpos (starEach ([] : List Expr) X.env)).any (·.1) = false := by rfl)
    (hs : swapsWith (.Call (.Attribute (.Name x p) "append" apos) [e] [] mpos) none pos.line X.env = pure false := by rfl) :
    SD X E (.Expr (.Call (.Attribute (.Name x p) "append" apos) [e] [] mpos) pos) (wsAppM i wm) := by
  obtain ⟨t, pt, s⟩ := ha.ex
  refine ⟨_, ps_expr (pe_bm PySem.F.plainAttrs_list PySem.F.slot_list_append PySem.F.type_list_append mt_append (pe_var hN hv hd hcd) (pa_cons pt pa_nil hst) hbase hfew hline hst hplain) hs, fun q ρ hw F σ H S D rp o => ?_⟩
  unfold wsAppM at hw
  split at hw
  case h_2 => exact hw.elim
  rename_i m0 xs0 hi0
  obtain ⟨l, u, e, h1, h2, ⟨us, rfl, h3⟩, _⟩ := rp.own hi0
  refine ⟨.ref l, e, .inl ⟨rfl, _, .of h2⟩, ?_⟩
  refine s q.ex ρ _ hw F σ H S _ rp (fun _ _ _ r => o.exOk r) fun d v ρ1 H1 S1 q1 r1 e1 hd1 => ?_
  split at q1
  · rename_i m xs hi
    obtain ⟨l', u', e', z1, z2, ⟨us', rfl, z3⟩, _⟩ := r1.own hi
    have : l' = l := by
      rw [e] at e'
      cases e'
      rfl
    subst this
    exact ⟨l', us', v, rfl, rfl, z2, by rw [z3.len]; exact q1.1, o.nx _ _ _ S1 q1.2 (r1.put (o' := .lst (us' ++ [v])) hi e' ⟨_, rfl, z3.app (.one hd1)⟩)⟩
  · exact q1.elim
/-- for x in range(e), e with an effect -/
def wForM (wm : WM) (g : WG) (wb : WS) : WS := fun q ρ => wm q.ex ρ fun d ρ1 => match d with
  | .int n => smallI n ∧ loopL g wb q (rngD 0 1 n.toNat) ρ1
  | _ => False
theorem sd_forM {tg : Expr} {is : List Nat} {g : WG} {body : List Stmt} (hg0 : Gl X "range") (hm0 : X.mg "range" = none) (xk : XOk X E) (hc : X.calm = true) (ha : EM X E a wm) (hg : GD X tg is g) (hb : SDs X E body ws)
    (hs1 : starEach [a] X.env = [(false, eval a X.env)] := by rfl) (he : starEach (a :: []) X.env = (false, eval a X.env) :: starEach [] X.env := by rfl)
    (hs : ∀ x, foldedSetIterable (.Call (.Name "range" p) [a] [] mpos) X.env x = pure x := by intro _; rfl) :
    SD X E (.For tg (.Call (.Name "range" p) [a] [] mpos) body [] pos) (wForM wm g ws) := by
  obtain ⟨ti, pti, si⟩ := ha.ex
  obtain ⟨tg, pg, sg⟩ := hg.ex
  obtain ⟨tb, pb, sb⟩ := hb.ex
  refine ⟨_, ps_for xk.own hc (pi_range1 hg0 hm0 (pa_cons pti pa_nil he) hs1) pg pb hs, fun q ρ0 hw F σ H S D rp o => ?_⟩
  refine si q.ex ρ0 _ hw F σ H S _ rp (fun _ _ _ r => o.exOk r) fun d v ρ H1 S1 q1 rp1 e1 h1 => ?_
  cases d with
  | int n =>
    unfold Dat at h1
    subst h1
    obtain ⟨⟨n1, n2⟩, q1⟩ := q1
    refine ⟨n, rfl, n1, n2, ?_⟩
    have hJ : ItOk (Itr 0 n.toNat) S1 (rngD 0 1 n.toNat) := it_rng
    generalize rngD 0 1 n.toNat = ds at q1 hJ
    have ss1 := rp1.fg.ss
    have nw1 := rp1.fg.nw
    let W : Nat → Nat → L2.St → Hp → Prop := fun i m σ H => m = ds.length - i ∧ i ≤ ds.length ∧ ∃ ρ S, Rep { F with S0 := S1 } ρ σ H S ∧ loopL g ws q (ds.drop i) ρ
    refine ⟨W, ⟨ds.length, by simp, Nat.zero_le _, ρ, S1, rep_to rp1, q1⟩, ?_⟩
    rintro i m σ2 H2 ⟨rfl, hi, ρ2, S2, r2, hl⟩
    rcases Nat.lt_or_ge i ds.length with hlt | hge
    · obtain ⟨d, hdi⟩ : ∃ d, ds[i]? = some d := ⟨_, List.getElem?_eq_getElem hlt⟩
      obtain ⟨go, yl⟩ := (hJ i H2 S2 r2.fg.ss r2.fg.sh).1 d hdi
      have hdrop : ds.drop i = d :: ds.drop (i + 1) := by
        rw [List.drop_eq_getElem_cons hlt]
        congr 1
        rw [List.getElem?_eq_getElem hlt] at hdi
        exact Option.some.inj hdi
      rw [hdrop] at hl
      refine .inr ⟨go, W (i + 1) (ds.length - (i + 1)), fun σ' H' h => ⟨_, by omega, h⟩, fun x H' y => ?_⟩
      obtain ⟨S', g', dx⟩ := yl x H' y
      refine sg d ρ2 _ hl { F with S0 := S1 } σ2 H' S' x _ (r2.grow g') dx fun ρ3 σ3 h3 r3 _ => ?_
      refine sb _ ρ3 h3 { F with S0 := S1 } σ3 H' S' _ r3 ⟨fun ρ4 σ4 H4 S4 q4 r4 => ⟨rfl, hlt, ρ4, S4, r4, q4⟩, fun r ρ4 v σ4 H4 S4 q4 r4 p4 => o.rt r ρ4 v σ4 H4 S4 q4 (rep_in r4 ss1 nw1) p4,
        fun ρ4 σ4 H4 S4 q4 r4 => o.nx ρ4 σ4 H4 S4 q4 (rep_in r4 ss1 nw1), fun ρ4 σ4 H4 S4 q4 r4 => ⟨rfl, hlt, ρ4, S4, r4, q4⟩, fun n C H4 S4 h1 h2 h3 => o.ex n C H4 S4 h1 h2 (fg_in h3 ss1 nw1)⟩
    · have e : i = ds.length := by omega
      subst e
      rw [List.drop_length] at hl
      exact .inl ⟨(hJ _ H2 S2 r2.fg.ss r2.fg.sh).2 (Nat.le_refl _), o.nx ρ2 σ2 H2 S2 hl (rep_in r2 ss1 nw1)⟩
  | _ => exact q1.elim
end
end NL

namespace NL
open PySem PySem.Spec L2
open PyProof.Rows hiding St

/-! ### the law's own promise -/
def SP_law : Spec := fun ds _ R => ∃ ns, ds = [.scr ns] ∧ ns.length ≤ 63 ∧ R (.val (.bl true))
theorem len_law (ds : List D) (x : XS) (R : Rt → Prop) (h : SP_law ds x R) : ds.length = ["_law_script"].length := by
  obtain ⟨ns, rfl, _⟩ := h
  rfl
def spLaw (K : PySem.W.Frag) : Sp := fun vs H Q _ => ∃ (a : Addr) (ns : List Int), vs = [.ref a] ∧ SqL K H a (ns.map V.int) ∧ ns.length ≤ 63 ∧ ∀ H', Q (.bl true) H'
theorem law_in {K : PySem.W.Frag} {H : Hp} {a : Addr} {ns : List Int} (hl : ns.length ≤ 63) (hS : SqL K H a (ns.map V.int)) : spLaw K [.ref a] H (fun v _ => v = .bl true) fun _ _ _ => False :=
  ⟨a, ns, rfl, hS, hl, fun _ => rfl⟩
theorem law_cx {P : Program} {w : World} {H : Hp} {s s' : Shared} {e : Value} (h : L2.CX P w [] H s (fun _ _ _ => False) e s') : False := by
  obtain ⟨_, _, _, _, _, _, _, _, _, _, _, _, z⟩ := h
  exact z
theorem law_F {P : Program} {w : World} {K : PySem.W.Frag} {mg : Str → Option Value} {fl : Addr} {k : Nat} {x : Str}
    (h : ∃ fd : FuncData, (∀ (s : Shared) (v : Value), BindsTo s fd ⟨[v], []⟩ [(x, v)]) ∧ ∀ base : Heap, K.In base → base.Ns mainGlobals mg → FnOk P w K mg base (L2.CX P w) k fl fd [x] (@spOf ⟨K⟩ mg SP_law)) :
    ∃ fd : FuncData, (∀ (s : Shared) (v : Value), BindsTo s fd ⟨[v], []⟩ [(x, v)]) ∧ ∀ base : Heap, K.In base → base.Ns mainGlobals mg → FnOk P w K mg base (L2.CX P w) k fl fd [x] (spLaw K) := by
  obtain ⟨fd, h1, h2⟩ := h
  refine ⟨fd, h1, fun base b1 b2 => (h2 base b1 b2).imp fun vs H Q E h => ?_⟩
  obtain ⟨a, ns, rfl, hS, hl, q⟩ := h
  letI : KC := ⟨K⟩
  refine ⟨[.scr ns], H, fun _ => False, fun r => r = .val (.bl true), .refl _, .one ?_, ⟨ns, rfl, hl, rfl⟩, fun r v H' S' e _ h => ?_, fun _ _ _ _ z => z.elim⟩
  · unfold Dat
    exact ⟨a, rfl, hS⟩
  · subst e
    have h' : Dat S' (.bl true) v := h
    unfold Dat at h'
    subst h'
    exact q H'
end NL

namespace NL
open PySem PySem.Spec L2
open PyProof.Rows hiding St

/-! ### typed data -/
abbrev Pc := Str × Int
def dP (p : Pc) : D := .tup [.str p.1, .int p.2]
def dC (c : List Pc) : D := .lst (c.map dP)
def dI (c : List Int) : D := .lst (c.map D.int)
def rng (lo c : Int) (n : Nat) : List Int := (List.range n).map fun (i : Nat) => lo + (i : Int) * c
theorem rngD_eq {lo c : Int} {n : Nat} : rngD lo c n = (rng lo c n).map D.int := by
  unfold rngD rng
  rw [List.map_map]
  rfl
theorem mem_rng {lo c k : Int} {n : Nat} (h : k ∈ rng lo c n) : ∃ i : Nat, i < n ∧ k = lo + (i : Int) * c := by
  unfold rng at h
  obtain ⟨i, hi, e⟩ := List.mem_map.mp h
  exact ⟨i, List.mem_range.mp hi, e.symm⟩
theorem rng_len {lo c : Int} {n : Nat} : (rng lo c n).length = n := by simp [rng]
theorem rng0 {lo c : Int} : rng lo c 0 = [] := rfl
theorem rng_succ {lo c : Int} {n : Nat} : rng lo c (n + 1) = lo :: rng (lo + c) c n := by
  unfold rng
  rw [List.range_succ_eq_map, List.map_cons, List.map_map]
  congr 1
  · simp
  · apply List.map_congr_left
    intro i _
    simp only [Function.comp, Int.natCast_succ]
    rw [Int.add_mul]
    omega
theorem kit1 : kitB "list" "list" = some true := by decide +kernel
theorem kit2 : kitB "tuple" "tuple" = some true := by decide +kernel
theorem kit3 : kitB "str" "str" = some true := by decide +kernel
theorem kit4 : kitB "int" "int" = some true := by decide +kernel
theorem kit5 : kitB "int" "bool" = some false := by decide +kernel
theorem kit6 : kitB "bool" "bool" = some true := by decide +kernel
theorem kit7 : kitB "bool" "int" = some true := by decide +kernel
theorem kit8 : kitB "str" "list" = some false := by decide +kernel
theorem kit9 : kitB "NoneType" "list" = some false := by decide +kernel
theorem kit10 : kitB "NoneType" "int" = some false := by decide +kernel
theorem kit11 : kitB "NoneType" "str" = some false := by decide +kernel
theorem kit12 : kitB "NoneType" "tuple" = some false := by decide +kernel
theorem kit13 : kitB "int" "str" = some false := by decide +kernel
theorem kit14 : kitB "int" "list" = some false := by decide +kernel
theorem kit15 : kitB "int" "tuple" = some false := by decide +kernel
theorem kit16 : kitB "bool" "str" = some false := by decide +kernel
theorem kit17 : kitB "bool" "list" = some false := by decide +kernel
theorem kit18 : kitB "bool" "tuple" = some false := by decide +kernel
theorem kit19 : kitB "str" "int" = some false := by decide +kernel
theorem kit20 : kitB "str" "bool" = some false := by decide +kernel
theorem kit21 : kitB "str" "tuple" = some false := by decide +kernel
theorem kit22 : kitB "list" "str" = some false := by decide +kernel
theorem kit23 : kitB "list" "int" = some false := by decide +kernel
theorem kit24 : kitB "list" "bool" = some false := by decide +kernel
theorem kit25 : kitB "list" "tuple" = some false := by decide +kernel
theorem kit26 : kitB "tuple" "str" = some false := by decide +kernel
theorem kit27 : kitB "tuple" "int" = some false := by decide +kernel
theorem kit28 : kitB "tuple" "bool" = some false := by decide +kernel
theorem kit29 : kitB "tuple" "list" = some false := by decide +kernel
theorem kit30 : kitB "NoneType" "bool" = some false := by decide +kernel
theorem kit31 : kitB "dict" "str" = some false := by decide +kernel
theorem kit32 : kitB "dict" "list" = some false := by decide +kernel
theorem kit33 : kitB "dict" "tuple" = some false := by decide +kernel
theorem kit34 : kitB "dict" "int" = some false := by decide +kernel
theorem kit35 : kitB "dict" "bool" = some false := by decide +kernel

theorem castN (n : Nat) : ((no_index (OfNat.ofNat n) : Nat) : Int) = OfNat.ofNat n := rfl
/-! ### places -/
theorem atI_in {α : Type} {xs : List α} {i : Int} (h0 : 0 ≤ i) (h : i < xs.length) : ∃ a, atI xs i = some a ∧ a ∈ xs := by
  have hi : i.toNat < xs.length := by omega
  refine ⟨xs[i.toNat], ?_, List.getElem_mem hi⟩
  have := atI_nat (List.getElem?_eq_getElem hi)
  rw [Int.toNat_of_nonneg h0] at this
  exact this
theorem atI_at {α : Type} {xs : List α} {i : Int} {j : Nat} (h : i = j) (hj : j < xs.length) : atI xs i = some xs[j] := by
  rw [h]
  exact atI_nat (List.getElem?_eq_getElem hj)
theorem atI_neg1 {α : Type} {xs : List α} : atI xs (-1) = xs.getLast? := by
  rcases List.eq_nil_or_concat xs with h | ⟨r, a, h⟩
  · rw [h]; rfl
  · rw [h]
    have := atI_last r a
    simpa using this
theorem atI_rev1 {α : Type} {xs : List α} : atI xs.reverse (-1) = xs.head? := by
  rw [atI_neg1, List.getLast?_reverse]

/-! ### texts by their signs -/
def tx (l : List Nat) : Str := ⟨l.toArray⟩
theorem tx_cps {l : List Nat} : (tx l).cps.toList = l := by simp [tx]
theorem tx_len {l : List Nat} : (tx l).length = l.length := by
  show l.toArray.size = _
  simp
theorem tx_app {a b : List Nat} : tx a ++ tx b = tx (a ++ b) := by
  show (⟨a.toArray ++ b.toArray⟩ : Str) = ⟨_⟩
  simp
theorem tx_of (s : Str) : s = tx s.cps.toList := by
  cases s
  simp [tx]
theorem tx_inj {a b : List Nat} : tx a = tx b ↔ a = b := by
  constructor
  · intro h
    rw [← tx_cps (l := a), h, tx_cps]
  · rintro rfl; rfl
theorem tx_one {c : Nat} : (⟨#[c]⟩ : Str) = tx [c] := rfl
theorem tx_nil : (⟨#[]⟩ : Str) = tx [] := rfl
theorem tx_cut {l : List Nat} {lo hi : Option Int} : cutS (tx l) lo hi = tx (cut l lo hi) := by
  unfold cutS cut
  rw [tx_cps, tx_len]
  rfl
theorem tx_signs {l : List Nat} : signs (tx l) = l.map fun c => .str (tx [c]) := by
  unfold signs
  rw [tx_cps]
  rfl
theorem tx_rep {n : Nat} {l : List Nat} : srep n (tx l) = tx (List.replicate n l).flatten := by
  unfold srep
  rw [tx_cps]
  rfl
theorem lit_empty : Str.ofString "" = tx [] := by decide +kernel
theorem az_cps : (Str.ofString "abcdefghijklmnopqrstuvwxyz").cps.toList = (List.range 26).map fun i => 97 + i := by decide +kernel
theorem abcz_cps : (Str.ofString "abcz").cps.toList = [97, 98, 99, 122] := by decide +kernel
theorem tx_ok {l : List Nat} (h : ∀ c ∈ l, 97 ≤ c ∧ c ≤ 122) : PyData.strOk (tx l) = true := by
  simp only [PyData.strOk, tx, List.all_toArray, List.all_eq_true]
  intro c hc
  have := h c hc
  simp
  omega
/-! ### products that are small -/
theorem log2_lt {i : Int} {n : Nat} (h : i.natAbs < 2 ^ (n + 1)) : i.natAbs.log2 ≤ n := by
  rcases Nat.eq_zero_or_pos i.natAbs with z | z
  · rw [z]; simp
  · have := (Nat.log2_lt (by omega)).mpr h
    omega
theorem mulWn {i j : Int} {a b : Nat} (h1 : i.natAbs < 2 ^ (a + 1)) (h2 : j.natAbs < 2 ^ (b + 1)) (h : a + b < 1000000) : CMulW i j := by
  have x := log2_lt h1
  have y := log2_lt h2
  show _ + _ < 1000000
  omega
theorem mulW {i j : Int} (h1 : i.natAbs < 2 ^ 201) (h2 : j.natAbs < 2 ^ 201) : CMulW i j := by
  have a := log2_lt h1
  have b := log2_lt h2
  show _ + _ < 1000000
  omega
theorem divW {i j : Int} (h0 : 0 < j) (h2 : j.natAbs < 2 ^ 201) : CDivW i j := ⟨h0, by have := log2_lt h2; omega⟩

theorem divW_eq {i j : Int} (h0 : 0 < j) (h2 : j < 1606938044258990275541962092341162602522202993782792835301376) : CDivW i j = True := by
  have e : (2 : Nat) ^ 201 = 3213876088517980551083924184682325205044405987565585670602752 := by decide
  exact eq_true (divW h0 (by omega))
theorem mulW_eq {i j : Int} (h0 : -1606938044258990275541962092341162602522202993782792835301376 < i) (h1 : i < 1606938044258990275541962092341162602522202993782792835301376) (h2 : -1606938044258990275541962092341162602522202993782792835301376 < j) (h3 : j < 1606938044258990275541962092341162602522202993782792835301376) : CMulW i j = True := by
  have e : (2 : Nat) ^ 201 = 3213876088517980551083924184682325205044405987565585670602752 := by decide
  exact eq_true (mulW (by omega) (by omega))
theorem divWs {i j : Int} (h0 : 0 < j) (h2 : j < 1000000000000) : CDivW i j := of_eq_true (divW_eq h0 (by omega))
/-! ### data that is told apart -/
def OkC (c : List Pc) : Prop := ∀ p ∈ c, PyData.strOk p.1 = true
theorem nb_dP {p : Pc} {n : Nat} (h : PyData.strOk p.1 = true) : nb (n + 2) (dP p) = true := by simp [dP, nb, h]
theorem nb_dC {c : List Pc} {n : Nat} (h : OkC c) : nb (n + 3) (dC c) = true := by
  simp only [dC, nb, List.all_map, List.all_eq_true]
  exact fun p hp => nb_dP (h p hp)
theorem dP_inj {p q : Pc} : dP p = dP q ↔ p = q := by
  constructor
  · intro h
    simp [dP] at h
    exact Prod.ext h.1 h.2
  · rintro rfl; rfl
theorem map_inj {α β : Type} {f : α → β} (hf : ∀ a b, f a = f b ↔ a = b) : ∀ {xs ys : List α}, xs.map f = ys.map f ↔ xs = ys
  | [], [] => by simp
  | [], _ :: _ => by simp
  | _ :: _, [] => by simp
  | x :: xs, y :: ys => by
    simp only [List.map_cons, List.cons.injEq, hf, map_inj hf]
theorem dC_inj {a b : List Pc} : dC a = dC b ↔ a = b := by
  simp only [dC, D.lst.injEq]
  exact map_inj fun _ _ => dP_inj
theorem deq_dec {a b : D} {p : Prop} [Decidable p] (h : a = b ↔ p) : deq a b = decide p := by
  unfold deq
  rw [Bool.eq_iff_iff]
  simp [h]
theorem deq_dC {a b : List Pc} : deq (dC a) (dC b) = decide (a = b) := deq_dec dC_inj
theorem map_snocI {xs : List Int} {y : Int} : List.map D.int xs ++ [D.int y] = List.map D.int (xs ++ [y]) := by simp
theorem deqC {a b : List Pc} : deq (.lst (a.map dP)) (.lst (b.map dP)) = decide (a = b) := deq_dC
theorem deq_self {d : D} : deq d d = true := by simp [deq]
theorem nbC {c : List Pc} (h : OkC c) : nb 20 (.lst (c.map dP)) = true := nb_dC (n := 17) h
theorem rep_map {α β : Type} {f : α → β} {n : Nat} {xs : List α} : (List.replicate n (xs.map f)).flatten = ((List.replicate n xs).flatten).map f := by
  induction n with
  | zero => rfl
  | succ n ih => simp only [List.replicate_succ, List.flatten_cons, ih, List.map_append]
theorem rep_len {α : Type} {n : Nat} {xs : List α} : (List.replicate n xs).flatten.length = n * xs.length := by
  induction n with
  | zero => simp
  | succ n ih => rw [List.replicate_succ, List.flatten_cons, List.length_append, ih, Nat.succ_mul]; omega
theorem rep_mem {α : Type} {n : Nat} {xs : List α} {a : α} (h : a ∈ (List.replicate n xs).flatten) : a ∈ xs := by
  obtain ⟨l, hl, ha⟩ := List.mem_flatten.mp h
  rw [List.mem_replicate] at hl
  rw [hl.2] at ha
  exact ha
theorem nls_dP : ∀ {c : List Pc}, nls (c.map dP) = true
  | [] => rfl
  | p :: c => by simp [nls, nl, dP, nls_dP]
/-- one letter -/
def isNail (s : Str) : Prop := ∃ ch, s = tx [ch] ∧ 97 ≤ ch ∧ ch ≤ 122
theorem isNail.ok {s : Str} (h : isNail s) : PyData.strOk s = true := by
  obtain ⟨ch, rfl, h1, h2⟩ := h
  simp [PyData.strOk, tx]
  omega
/-- a good piece: a nail, turns of at most so many -/
def Gd (b : Int) (p : Pc) : Prop := isNail p.1 ∧ -b ≤ p.2 ∧ p.2 ≤ b
def Gds (b : Int) (c : List Pc) : Prop := ∀ p ∈ c, Gd b p
theorem Gds.ok {b : Int} {c : List Pc} (h : Gds b c) : OkC c := fun p hp => (h p hp).1.ok
theorem Gds.nil {b : Int} : Gds b [] := fun _ h => by cases h
theorem Gds.app {b : Int} {c d : List Pc} (h : Gds b c) (g : Gds b d) : Gds b (c ++ d) := fun p hp => (List.mem_append.mp hp).elim (h p) (g p)
theorem Gds.sub {b : Int} {c d : List Pc} (h : Gds b c) (g : ∀ p ∈ d, p ∈ c) : Gds b d := fun p hp => h p (g p hp)
theorem Gds.mono {b b' : Int} {c : List Pc} (h : Gds b c) (g : b ≤ b') : Gds b' c := fun p hp => ⟨(h p hp).1, by have := (h p hp).2; omega, by have := (h p hp).2; omega⟩
theorem cut_mem {α : Type} {xs : List α} {l h : Option Int} {a : α} (m : a ∈ cut xs l h) : a ∈ xs := List.mem_of_mem_drop (List.mem_of_mem_take m)
theorem cut_len {α : Type} {xs : List α} {l h : Option Int} : (cut xs l h).length ≤ xs.length := by
  unfold cut
  rw [List.length_take, List.length_drop]
  omega
theorem cut_to {α : Type} {xs : List α} {n : Int} (h0 : 0 ≤ n) : cut xs none (some n) = xs.take n.toNat := by
  unfold cut
  rw [HT.sIx_none]
  have e : HT.sIx xs.length xs.length (some n) = min n.toNat xs.length := by
    have := HT.sIx_nat xs.length xs.length n.toNat
    rw [Int.toNat_of_nonneg h0] at this
    exact this
  rw [e, List.drop_zero, Nat.sub_zero]
  rcases Nat.le_total n.toNat xs.length with z | z
  · rw [Nat.min_eq_left z]
  · rw [Nat.min_eq_right z, List.take_of_length_le (Nat.le_refl _), List.take_of_length_le z]
theorem cut_from {α : Type} {xs : List α} {n : Int} (h0 : 0 ≤ n) : cut xs (some n) none = xs.drop n.toNat := by
  unfold cut
  rw [HT.sIx_none]
  have e : HT.sIx xs.length 0 (some n) = min n.toNat xs.length := by
    have := HT.sIx_nat xs.length 0 n.toNat
    rw [Int.toNat_of_nonneg h0] at this
    exact this
  rw [e]
  rcases Nat.le_total n.toNat xs.length with z | z
  · rw [Nat.min_eq_left z, List.take_of_length_le (by rw [List.length_drop]; omega)]
  · rw [Nat.min_eq_right z, List.drop_of_length_le (Nat.le_refl _), List.drop_of_length_le z]
    simp
theorem cut_last {α : Type} {xs : List α} {y : α} : cut (xs ++ [y]) (some (-1)) none = [y] := by
  unfold cut
  rw [HT.sIx_none]
  have e : HT.sIx (xs ++ [y]).length 0 (some (-1)) = xs.length := by
    show (if (-1 : Int) < 0 then ((-1 : Int) + ((xs ++ [y]).length : Int)).toNat else min (-1 : Int).toNat (xs ++ [y]).length) = _
    rw [if_pos (by decide), List.length_append]
    simp
    omega
  rw [e]
  simp
theorem cut_nil {α : Type} {lo hi : Option Int} : cut ([] : List α) lo hi = [] := by simp [cut]
theorem cut_fromTo {α : Type} {xs : List α} {m n : Int} (h0 : 0 ≤ m) (h1 : 0 ≤ n) : cut xs (some m) (some n) = (xs.take n.toNat).drop m.toNat := by
  unfold cut
  have e : HT.sIx xs.length 0 (some m) = min m.toNat xs.length := by
    have := HT.sIx_nat xs.length 0 m.toNat
    rw [Int.toNat_of_nonneg h0] at this
    exact this
  have e2 : HT.sIx xs.length xs.length (some n) = min n.toNat xs.length := by
    have := HT.sIx_nat xs.length xs.length n.toNat
    rw [Int.toNat_of_nonneg h1] at this
    exact this
  rw [e, e2, List.drop_take]
  apply List.ext_getElem?
  intro i
  rw [List.getElem?_take, List.getElem?_take, List.getElem?_drop, List.getElem?_drop]
  rcases Nat.le_total m.toNat xs.length with z | z
  · rw [Nat.min_eq_left z]
    rcases Nat.le_total n.toNat xs.length with z2 | z2
    · rw [Nat.min_eq_left z2]
    · rw [Nat.min_eq_right z2]
      split <;> split <;> first | rfl | omega | (rw [List.getElem?_eq_none (by omega)]) | (symm; rw [List.getElem?_eq_none (by omega)])
  · rw [Nat.min_eq_right z, List.getElem?_eq_none (by omega : xs.length ≤ xs.length + i), List.getElem?_eq_none (by omega : xs.length ≤ m.toNat + i)]
    split <;> split <;> rfl
/-- a comprehension that takes each item to one -/
theorem compL_map {α : Type} {g : WG} {we : WE} {ρ : Ev} {Q : List D → Prop} (f : α → D) (h : α → D) (he : ∀ a (Q' : D → Prop), Q' (h a) → g (f a) ρ fun ρ2 => we X0 ρ2 Q') : ∀ (xs : List α) (acc : List D), acc.length + xs.length ≤ sizeLine → Q (acc ++ xs.map h) → compL g wtYes we ρ Q (xs.map f) acc
  | [], acc, _, q => by simpa [compL] using q
  | a :: xs, acc, hl, q => by
    simp only [List.map_cons, compL, wtYes, Br_true]
    refine he a _ ⟨by simp at hl; omega, compL_map f h he xs (acc ++ [h a]) (by simp at hl ⊢; omega) (by simpa using q)⟩
theorem compL_map' {α : Type} {g : WG} {we : WE} {ρ : Ev} {Q : List D → Prop} (f : α → D) (h : α → D) : ∀ (xs : List α) (acc : List D), (∀ a ∈ xs, ∀ (Q' : D → Prop), Q' (h a) → g (f a) ρ fun ρ2 => we X0 ρ2 Q') → acc.length + xs.length ≤ sizeLine → Q (acc ++ xs.map h) → compL g wtYes we ρ Q (xs.map f) acc
  | [], acc, _, _, q => by simpa [compL] using q
  | a :: xs, acc, he, hl, q => by
    simp only [List.map_cons, compL, wtYes, Br_true]
    refine he a (by simp) _ ⟨by simp at hl; omega, compL_map' f h xs (acc ++ [h a]) (fun b hb => he b (by simp [hb])) (by simp at hl ⊢; omega) (by simpa using q)⟩
theorem compL_filter {α : Type} {g : WG} {wt : WT} {we : WE} {ρ : Ev} {Q : List D → Prop} (f : α → D) (h : α → D) (t : α → Bool) : ∀ (xs : List α) (acc : List D), (∀ a ∈ xs, ∀ (Q' : Bool → Ev → Prop), (∀ ρ2, (∀ (Q2 : D → Prop), Q2 (h a) → we X0 ρ2 Q2) → Q' (t a) ρ2) → g (f a) ρ fun ρ2 => wt X0 ρ2 fun b => Q' b ρ2) → acc.length + xs.length ≤ sizeLine → Q (acc ++ (xs.filter t).map h) → compL g wt we ρ Q (xs.map f) acc
  | [], acc, _, _, q => by simpa [compL] using q
  | a :: xs, acc, he, hl, q => by
    simp only [List.map_cons, compL]
    refine he a (by simp) (fun b ρ2 => Br b (we X0 ρ2 fun y => acc.length < sizeLine ∧ compL g wt we ρ Q (xs.map f) (acc ++ [y])) (compL g wt we ρ Q (xs.map f) acc) ⟨⟩ ⟨⟩) fun ρ2 hw => ?_
    have ih := fun acc => compL_filter (Q := Q) f h t xs acc (fun b hb => he b (by simp [hb]))
    cases ht : t a with
    | true =>
      rw [Br_true]
      refine hw _ ⟨by simp at hl; omega, ih _ (by simp at hl ⊢; omega) ?_⟩
      rw [List.filter_cons, if_pos ht] at q
      simpa using q
    | false =>
      rw [Br_false]
      refine ih _ (by simp at hl ⊢; omega) ?_
      rw [List.filter_cons, if_neg (by simp [ht])] at q
      exact q
/-- a loop, by a word over what is left and the slots -/
theorem loop_ind {α S : Type} {g : WG} {wb : WS} {q : DEnds} (f : α → D) (env : S → Ev) (P : List α → S → Prop) (hnil : ∀ s, P [] s → q.nx (env s))
    (hstep : ∀ a r s (L : Ev → Prop), P (a :: r) s → (∀ s', P r s' → L (env s')) → g (f a) (env s) fun ρ1 => wb ⟨L, q.rt, q.nx, L, q.ex⟩ ρ1) : ∀ (xs : List α) (s0 : S), P xs s0 → loopL g wb q (xs.map f) (env s0)
  | [], s, h => hnil s h
  | a :: r, s, h => hstep a r s _ h fun s' h' => loop_ind f env P hnil hstep r s' h'
/-- while, by a word over the slots and a measure -/
theorem while_ind {S : Type} {wt : WT} {wb : WS} {q : DEnds} (env : S → Ev) (P : Nat → S → Prop)
    (hstep : ∀ m s (L : Ev → Prop), P m s → (∀ m' s', m' < m → P m' s' → L (env s')) → wt q.ex (env s) fun b => Br b (wb { q with nx := L, ct := L, bk := q.nx } (env s)) (q.nx (env s)) ⟨⟩ ⟨⟩)
    (m0 : Nat) (s0 : S) (h0 : P m0 s0) : wWhile wt wb q (env s0) := by
  refine ⟨fun m ρ => ∃ s, ρ = env s ∧ P m s, ⟨m0, s0, rfl, h0⟩, ?_⟩
  rintro m ρ ⟨s, rfl, h⟩
  exact hstep m s (fun ρ' => ∃ m', m' < m ∧ ∃ s, ρ' = env s ∧ P m' s) h fun m' s' hm hp => ⟨m', hm, s', rfl, hp⟩
def lawSign (s : Str) (i : Int) : Str := tx [(atI s.cps.toList i).getD 97]
theorem lawSign_at {s : Str} {i : Int} (h0 : 0 ≤ i) (h1 : i < s.cps.toList.length) (hs : ∀ c ∈ s.cps.toList, 97 ≤ c ∧ c ≤ 122) : ∃ c, atI s.cps.toList i = some c ∧ tx [c] = lawSign s i ∧ isNail (lawSign s i) := by
  obtain ⟨c, e, m⟩ := atI_in h0 h1
  refine ⟨c, e, ?_, ?_⟩
  · unfold lawSign; rw [e]; rfl
  · refine ⟨c, ?_, hs c m⟩
    unfold lawSign; rw [e]; rfl
theorem abcz_ok : ∀ c ∈ ("abcz" : Str).cps.toList, 97 ≤ c ∧ c ≤ 122 := by decide +kernel
theorem abcz_len : ("abcz" : Str).cps.toList.length = 4 := by decide +kernel
theorem az_ok : ∀ c ∈ ("abcdefghijklmnopqrstuvwxyz" : Str).cps.toList, 97 ≤ c ∧ c ≤ 122 := by decide +kernel
theorem az_len : ("abcdefghijklmnopqrstuvwxyz" : Str).cps.toList.length = 26 := by decide +kernel
theorem abcz_sz : ("abcz" : Str).length ≤ 16777216 := by decide +kernel
theorem az_sz : ("abcdefghijklmnopqrstuvwxyz" : Str).length ≤ 16777216 := by decide +kernel
/-- a nail as a text -/
def dS (x : Nat) : D := .str (tx [x])
/-- a row of letters -/
def Lt (l : List Nat) : Prop := ∀ c ∈ l, 97 ≤ c ∧ c ≤ 122
theorem az_at {i : Int} (h0 : 0 ≤ i) (h1 : i < 26) : atI (Str.ofString "abcdefghijklmnopqrstuvwxyz").cps.toList i = some (97 + i.toNat) := by
  rw [az_cps, atI_at (xs := (List.range 26).map fun i => 97 + i) (i := i) (j := i.toNat) (by omega) (by simp; omega)]
  simp
theorem lawSign_az {i : Int} (h0 : 0 ≤ i) (h1 : i < 26) : lawSign (Str.ofString "abcdefghijklmnopqrstuvwxyz") i = tx [97 + i.toNat] := by
  unfold lawSign
  rw [az_at h0 h1]
  rfl
end NL

/-! Cords as words: putting together at the front, runs, and that it is one whatever is first. -/
namespace NL
open PySem PySem.Spec L2
open PyProof.Rows hiding St

/-- a piece put ahead of runs -/
def ps (p : Pc) (w : List Pc) : List Pc := if p.2 = 0 then w else match w with
  | [] => [p]
  | l :: r => if l.1 = p.1 then (if p.2 + l.2 = 0 then r else (p.1, p.2 + l.2) :: r) else p :: l :: r
def act (c w : List Pc) : List Pc := c.foldr ps w
/-- the runs -/
def nf (c : List Pc) : List Pc := act c []
/-- no turns 0, neighbours unlike -/
def Red : List Pc → Prop
  | [] => True
  | [p] => p.2 ≠ 0
  | p :: q :: r => p.2 ≠ 0 ∧ p.1 ≠ q.1 ∧ Red (q :: r)
theorem Red.tail {p : Pc} {r : List Pc} (h : Red (p :: r)) : Red r := by
  cases r with
  | nil => trivial
  | cons q r => exact h.2.2
theorem Red.head {p : Pc} {r : List Pc} (h : Red (p :: r)) : p.2 ≠ 0 := by
  cases r with
  | nil => exact h
  | cons q r => exact h.1
theorem Red.mk {p : Pc} {r : List Pc} (h0 : p.2 ≠ 0) (h1 : ∀ q, r.head? = some q → p.1 ≠ q.1) (h : Red r) : Red (p :: r) := by
  cases r with
  | nil => exact h0
  | cons q r => exact ⟨h0, h1 q rfl, h⟩
theorem Red.ne {p q : Pc} {r : List Pc} (h : Red (p :: q :: r)) : p.1 ≠ q.1 := h.2.1
theorem Red.swap {p q : Pc} {r : List Pc} (h : Red (p :: r)) (e : q.1 = p.1) (h0 : q.2 ≠ 0) : Red (q :: r) := by
  cases r with
  | nil => exact h0
  | cons s r => exact ⟨h0, by rw [e]; exact h.2.1, h.2.2⟩
theorem ps_red {p : Pc} {w : List Pc} (h : Red w) : Red (ps p w) := by
  unfold ps
  split
  · exact h
  · rename_i h0
    cases w with
    | nil => exact h0
    | cons l r =>
      simp only
      split
      · rename_i e
        split
        · exact h.tail
        · rename_i hs
          exact h.swap e.symm hs
      · rename_i e
        exact ⟨h0, fun z => e z.symm, h⟩
theorem ps_zero {n : Str} {w : List Pc} : ps (n, 0) w = w := by simp [ps]
theorem ps_nil {p : Pc} (h : p.2 ≠ 0) : ps p [] = [p] := by simp [ps, h]
theorem ps_other {p l : Pc} {r : List Pc} (h : p.2 ≠ 0) (e : l.1 ≠ p.1) : ps p (l :: r) = p :: l :: r := by simp [ps, h, e]
theorem ps_same {p l : Pc} {r : List Pc} (h : p.2 ≠ 0) (e : l.1 = p.1) (s : p.2 + l.2 ≠ 0) : ps p (l :: r) = (p.1, p.2 + l.2) :: r := by simp [ps, h, e, s]
theorem ps_gone {p l : Pc} {r : List Pc} (h : p.2 ≠ 0) (e : l.1 = p.1) (s : p.2 + l.2 = 0) : ps p (l :: r) = r := by simp [ps, h, e, s]
/-- two pieces of one nail -/
theorem ps_ps {n : Str} {a b : Int} {w : List Pc} (hw : Red w) : ps (n, a) (ps (n, b) w) = ps (n, a + b) w := by
  by_cases ha : a = 0
  · subst ha; rw [ps_zero, Int.zero_add]
  by_cases hb : b = 0
  · subst hb; rw [ps_zero, Int.add_zero]
  cases w with
  | nil =>
    rw [ps_nil (p := (n, b)) hb]
    by_cases hs : a + b = 0
    · rw [ps_gone (p := (n, a)) (l := (n, b)) ha rfl hs, hs, ps_zero]
    · rw [ps_same (p := (n, a)) (l := (n, b)) ha rfl hs, ps_nil (p := (n, a + b)) hs]
  | cons l r =>
    by_cases e : l.1 = n
    · by_cases h1 : b + l.2 = 0
      · rw [ps_gone (p := (n, b)) hb e h1]
        have el : l.2 ≠ 0 := hw.head
        have hab : a + b + l.2 = a := by omega
        by_cases hs : a + b = 0
        · have : a = l.2 := by omega
          rw [hs, ps_zero, this]
          cases r with
          | nil => rw [ps_nil (p := (n, l.2)) el]; congr 1; exact Prod.ext e.symm rfl
          | cons q r =>
            have hq : q.1 ≠ l.1 := fun z => hw.2.1 z.symm
            rw [ps_other (p := (n, l.2)) el (by rw [← e]; exact hq)]
            congr 1
            exact Prod.ext e.symm rfl
        · rw [ps_same (p := (n, a + b)) hs e (by show a + b + l.2 ≠ 0; rw [hab]; exact ha)]
          show ps (n, a) r = (n, a + b + l.2) :: r
          rw [hab]
          cases r with
          | nil => rw [ps_nil (p := (n, a)) ha]
          | cons q r =>
            have hq : q.1 ≠ l.1 := fun z => hw.2.1 z.symm
            rw [ps_other (p := (n, a)) ha (by rw [← e]; exact hq)]
      · rw [ps_same (p := (n, b)) hb e h1]
        by_cases h2 : a + (b + l.2) = 0
        · rw [ps_gone (p := (n, a)) (l := (n, b + l.2)) ha rfl h2]
          by_cases hs : a + b = 0
          · exact absurd (show l.2 = 0 by omega) hw.head
          · rw [ps_gone (p := (n, a + b)) hs e (by show a + b + l.2 = 0; omega)]
        · rw [ps_same (p := (n, a)) (l := (n, b + l.2)) ha rfl h2]
          by_cases hs : a + b = 0
          · rw [hs, ps_zero]
            congr 1
            refine Prod.ext e.symm ?_
            show a + (b + l.2) = l.2
            omega
          · rw [ps_same (p := (n, a + b)) hs e (by show a + b + l.2 ≠ 0; omega)]
            congr 1
            refine Prod.ext rfl ?_
            show a + (b + l.2) = a + b + l.2
            omega
    · rw [ps_other (p := (n, b)) hb e]
      by_cases hs : a + b = 0
      · rw [ps_gone (p := (n, a)) (l := (n, b)) ha rfl hs, hs, ps_zero]
      · rw [ps_same (p := (n, a)) (l := (n, b)) ha rfl hs, ps_other (p := (n, a + b)) hs e]
theorem act_red {c w : List Pc} (h : Red w) : Red (act c w) := by
  induction c with
  | nil => exact h
  | cons p c ih => exact ps_red ih
theorem act_app (a b w : List Pc) : act (a ++ b) w = act a (act b w) := by simp [act, List.foldr_append]
theorem act_cons (p : Pc) (c w : List Pc) : act (p :: c) w = ps p (act c w) := rfl
theorem act_nil (w : List Pc) : act [] w = w := rfl
theorem nf_red (c : List Pc) : Red (nf c) := act_red (c := c) (w := []) trivial
theorem red_nf {w : List Pc} (h : Red w) : nf w = w := by
  induction w with
  | nil => rfl
  | cons p r ih =>
    show ps p (nf r) = p :: r
    rw [ih h.tail]
    cases r with
    | nil => exact ps_nil h
    | cons q r => exact ps_other h.1 fun z => h.2.1 z.symm
theorem nf_nf (c : List Pc) : nf (nf c) = nf c := red_nf (nf_red c)
theorem nf_app (a b : List Pc) : nf (a ++ b) = act a (nf b) := act_app a b []
/-- two cords that do one thing to runs -/
def Eqv (a b : List Pc) : Prop := ∀ w, Red w → act a w = act b w
theorem Eqv.refl (a : List Pc) : Eqv a a := fun _ _ => rfl
theorem Eqv.symm {a b : List Pc} (h : Eqv a b) : Eqv b a := fun w r => (h w r).symm
theorem Eqv.trans {a b c : List Pc} (h : Eqv a b) (g : Eqv b c) : Eqv a c := fun w r => (h w r).trans (g w r)
theorem Eqv.app {a b c d : List Pc} (h : Eqv a b) (g : Eqv c d) : Eqv (a ++ c) (b ++ d) := fun w r => by
  rw [act_app, act_app, g w r, h _ (act_red r)]
theorem Eqv.nf {a b : List Pc} (h : Eqv a b) : nf a = nf b := h [] trivial
/-- a cord does what its runs do -/
theorem eqv_nf (c : List Pc) : Eqv c (nf c) := by
  induction c with
  | nil => exact .refl _
  | cons p c ih =>
    intro w r
    rw [act_cons, ih w r]
    show ps p (act (nf c) w) = act (ps p (nf c)) w
    have hr := nf_red c
    generalize nf c = u at hr
    by_cases h0 : p.2 = 0
    · have : p = (p.1, 0) := Prod.ext rfl h0
      rw [this, ps_zero, ps_zero]
    cases u with
    | nil => rw [ps_nil h0]; rfl
    | cons l t =>
      by_cases e : l.1 = p.1
      · have e1 : l = (p.1, l.2) := Prod.ext e rfl
        have key : ps p (act (l :: t) w) = ps (p.1, p.2 + l.2) (act t w) := by
          rw [act_cons, e1]
          exact ps_ps (n := p.1) (a := p.2) (b := l.2) (act_red r)
        rw [key]
        by_cases hs : p.2 + l.2 = 0
        · rw [hs, ps_zero, ps_gone h0 e hs]
        · rw [ps_same h0 e hs]; rfl
      · rw [ps_other h0 e]; rfl
theorem nf_eqv {a b : List Pc} (h : nf a = nf b) : Eqv a b := (eqv_nf a).trans (by rw [h]; exact (eqv_nf b).symm)
theorem eqv_iff' {a b : List Pc} : Eqv a b ↔ nf a = nf b := ⟨Eqv.nf, nf_eqv⟩
theorem nf_app2 (a b : List Pc) : nf (a ++ b) = nf (nf a ++ nf b) := ((eqv_nf a).app (eqv_nf b)).nf
theorem nf_appR (a b : List Pc) : nf (a ++ b) = nf (a ++ nf b) := ((Eqv.refl a).app (eqv_nf b)).nf
theorem nf_appL (a b : List Pc) : nf (a ++ b) = nf (nf a ++ b) := ((eqv_nf a).app (Eqv.refl b)).nf
theorem nf_congr {a b c d : List Pc} (h : nf a = nf b) (g : nf c = nf d) : nf (a ++ c) = nf (b ++ d) := ((nf_eqv h).app (nf_eqv g)).nf
/-! ### one after the other, at the back -/
theorem Red.app_one : ∀ {w : List Pc} {p : Pc}, Red w → p.2 ≠ 0 → (∀ q, w.getLast? = some q → q.1 ≠ p.1) → Red (w ++ [p])
  | [], p, _, h, _ => h
  | [q], p, h, h0, h1 => ⟨h, h1 q rfl, h0⟩
  | q :: s :: r, p, h, h0, h1 => ⟨h.1, h.2.1, Red.app_one (w := s :: r) h.2.2 h0 fun t ht => h1 t (by rw [List.getLast?_cons_cons]; exact ht)⟩
theorem Red.rev : ∀ {w : List Pc}, Red w → Red w.reverse
  | [], _ => trivial
  | [p], h => h
  | p :: q :: r, h => by
    rw [List.reverse_cons]
    refine Red.app_one (Red.rev h.2.2) h.1 fun t ht => ?_
    rw [List.getLast?_reverse] at ht
    cases ht
    exact fun z => h.2.1 z.symm
def stk (st : List Pc) (p : Pc) : List Pc := ps p st
/-- the stack (its top first) behind some pieces does what they do -/
theorem stk_act : ∀ (c st : List Pc), Red st → Red (c.foldl stk st) ∧ ∀ w, Red w → act (c.foldl stk st).reverse w = act (st.reverse ++ c) w
  | [], st, h => ⟨h, fun w r => by simp⟩
  | p :: c, st, h => by
    obtain ⟨h1, h2⟩ := stk_act c (stk st p) (ps_red h)
    refine ⟨h1, fun w r => ?_⟩
    show act (List.foldl stk (stk st p) c).reverse w = _
    rw [h2 w r, act_app, act_app]
    show act (ps p st).reverse (act c w) = act st.reverse (ps p (act c w))
    have hr : Red (act c w) := act_red r
    generalize act c w = u at hr
    by_cases h0 : p.2 = 0
    · have : p = (p.1, 0) := Prod.ext rfl h0
      rw [this, ps_zero, ps_zero]
    cases st with
    | nil => rw [ps_nil h0]; rfl
    | cons l t =>
      by_cases e : l.1 = p.1
      · have e1 : l = (p.1, l.2) := Prod.ext e rfl
        have key : act (l :: t).reverse (ps p u) = act t.reverse (ps (p.1, p.2 + l.2) u) := by
          rw [List.reverse_cons, act_app]
          congr 1
          show ps l (ps p u) = _
          rw [e1]
          have := ps_ps (n := p.1) (a := l.2) (b := p.2) hr
          rw [show p.2 + l.2 = l.2 + p.2 by omega]
          exact this
        rw [key]
        by_cases hs : p.2 + l.2 = 0
        · rw [hs, ps_zero, ps_gone h0 e hs]
        · rw [ps_same h0 e hs, List.reverse_cons, act_app]; rfl
      · rw [ps_other h0 e, List.reverse_cons, act_app]; rfl
/-- the runs, put together from the beginning -/
def short (c : List Pc) : List Pc := (c.foldl stk []).reverse
theorem short_nf (c : List Pc) : short c = nf c := by
  obtain ⟨h1, h2⟩ := stk_act c [] trivial
  have h3 := h2 [] trivial
  have h4 := red_nf h1.rev
  show (c.foldl stk []).reverse = nf c
  rw [← h4]
  exact h3
/-- the runs, put together from the end: a stack, its top first -/
theorem end_nf (c : List Pc) : c.reverse.foldl stk [] = nf c := by
  rw [List.foldl_reverse]
  rfl
theorem stk_len : ∀ (c st : List Pc), (c.foldl stk st).length ≤ c.length + st.length
  | [], st => by simp
  | p :: c, st => by
    have h := stk_len c (stk st p)
    have : (stk st p).length ≤ st.length + 1 := by
      unfold stk ps
      split
      · omega
      · split
        · simp
        · split
          · split <;> simp <;> omega
          · simp
    simp only [List.foldl_cons, List.length_cons]
    omega
theorem nf_len (c : List Pc) : (nf c).length ≤ c.length := by
  have := stk_len c []
  rw [← short_nf]
  simpa [short] using this
theorem ps_mem {p q : Pc} {w : List Pc} (h : q ∈ ps p w) : q ∈ w ∨ q.1 = p.1 := by
  unfold ps at h
  split at h
  · exact .inl h
  · split at h
    · simp at h; exact .inr (by rw [h])
    · split at h
      · split at h
        · exact .inl (List.mem_cons_of_mem _ h)
        · rcases List.mem_cons.mp h with e | e
          · exact .inr (by rw [e])
          · exact .inl (List.mem_cons_of_mem _ e)
      · rcases List.mem_cons.mp h with e | e
        · exact .inr (by rw [e])
        · exact .inl e
theorem nf_nails {c : List Pc} {q : Pc} (h : q ∈ nf c) : ∃ p ∈ c, q.1 = p.1 := by
  induction c with
  | nil => cases h
  | cons p c ih =>
    rcases ps_mem (p := p) (w := nf c) h with e | e
    · obtain ⟨r, hr, e⟩ := ih e
      exact ⟨r, List.mem_cons_of_mem _ hr, e⟩
    · exact ⟨p, List.mem_cons_self, e⟩
theorem nf_ok {c : List Pc} (h : OkC c) : OkC (nf c) := fun q hq => by
  obtain ⟨p, hp, e⟩ := nf_nails hq
  rw [e]
  exact h p hp
/-! ### the contrary -/
def con (c : List Pc) : List Pc := c.reverse.map fun p => (p.1, -p.2)
theorem con_con (c : List Pc) : con (con c) = c := by
  unfold con
  rw [← List.map_reverse, List.reverse_reverse, List.map_map]
  conv => rhs; rw [← List.map_id c]
  apply List.map_congr_left
  intro p _
  simp
theorem con_app (a b : List Pc) : con (a ++ b) = con b ++ con a := by simp [con]
theorem con_cons (p : Pc) (c : List Pc) : con (p :: c) = con c ++ [(p.1, -p.2)] := by simp [con]
theorem con_len (c : List Pc) : (con c).length = c.length := by simp [con]
theorem eqv_one (p : Pc) : Eqv ([p] ++ con [p]) [] := fun w r => by
  show ps p (ps (p.1, -p.2) w) = w
  have := ps_ps (n := p.1) (a := p.2) (b := -p.2) r
  rw [show p.2 + -p.2 = 0 by omega, ps_zero] at this
  exact this
theorem eqv_con (c : List Pc) : Eqv (c ++ con c) [] := by
  induction c with
  | nil => exact .refl _
  | cons p c ih =>
    rw [con_cons]
    have e : p :: c ++ (con c ++ [(p.1, -p.2)]) = [p] ++ ((c ++ con c) ++ [(p.1, -p.2)]) := by simp
    rw [e]
    exact (((Eqv.refl [p]).app (ih.app (.refl _))).trans (by simpa [con] using eqv_one p))
theorem eqv_con' (c : List Pc) : Eqv (con c ++ c) [] := by
  have := eqv_con (con c)
  rwa [con_con] at this
theorem nf_con (c : List Pc) : nf (c ++ con c) = [] := (eqv_con c).nf
theorem nf_con' (c : List Pc) : nf (con c ++ c) = [] := (eqv_con' c).nf
theorem nf_mid {u v : List Pc} (l r : List Pc) (h : Eqv u v) : nf (l ++ u ++ r) = nf (l ++ v ++ r) := (((Eqv.refl l).app h).app (.refl r)).nf
theorem eqv_mid {l r u v : List Pc} (h : nf (l ++ u ++ r) = nf (l ++ v ++ r)) : Eqv u v := by
  have e := nf_eqv h
  have key : ∀ z : List Pc, Eqv (con l ++ (l ++ z ++ r) ++ con r) z := fun z => by
    have h1 := ((eqv_con' l).app (Eqv.refl z)).app (eqv_con r)
    simp only [List.nil_append, List.append_nil, List.append_assoc] at h1 ⊢
    exact h1
  exact (key u).symm.trans ((((Eqv.refl (con l)).app e).app (.refl (con r))).trans (key v))
theorem eqv_part {n : Str} {a b t : Int} (h : a + b = t) : Eqv [(n, t)] [(n, a), (n, b)] := fun w r => by
  show ps (n, t) w = ps (n, a) (ps (n, b) w)
  rw [ps_ps r, h]
theorem eqv_zero {n : Str} : Eqv [] [(n, 0)] := fun w _ => (ps_zero (n := n) (w := w)).symm
theorem one_ne {l r : List Pc} {p : Pc} (h : nf (l ++ [p] ++ r) = nf (l ++ r)) : p.2 = 0 := by
  by_cases h0 : p.2 = 0
  · exact h0
  · have h' : nf (l ++ [p] ++ r) = nf (l ++ [] ++ r) := by rw [List.append_nil]; exact h
    have e := (eqv_mid h').nf
    have : nf [p] = [p] := ps_nil h0
    rw [this] at e
    cases e
theorem con_red {w : List Pc} (h : Red w) : Red (con w) := by
  unfold con
  have := h.rev
  generalize w.reverse = u at this
  induction u with
  | nil => trivial
  | cons p r ih =>
    cases r with
    | nil => show -p.2 ≠ 0; have : p.2 ≠ 0 := this; omega
    | cons q r => exact ⟨by have := this.1; show -p.2 ≠ 0; omega, this.2.1, ih this.2.2⟩
theorem eqv_con_congr {a b : List Pc} (h : Eqv a b) : Eqv (con a) (con b) := by
  have e1 : Eqv (con a) (con a ++ (b ++ con b)) := by
    have := (Eqv.refl (con a)).app (eqv_con b).symm
    simpa using this
  have e2 : Eqv (con a ++ (b ++ con b)) (con a ++ (a ++ con b)) := (Eqv.refl _).app (h.symm.app (.refl _))
  have e3 : Eqv (con a ++ (a ++ con b)) (con b) := by
    have := (eqv_con' a).app (Eqv.refl (con b))
    rw [List.append_assoc] at this
    simpa using this
  exact (e1.trans e2).trans e3
theorem nf_con_nf (c : List Pc) : nf (con c) = con (nf c) := by
  rw [(eqv_con_congr (eqv_nf c)).nf]
  exact red_nf (con_red (nf_red c))
theorem con_ok {c : List Pc} (h : OkC c) : OkC (con c) := fun q hq => by
  obtain ⟨p, hp, rfl⟩ := List.mem_map.mp hq
  exact h p (List.mem_reverse.mp hp)
theorem con_gd {b : Int} {c : List Pc} (h : Gds b c) : Gds b (con c) := fun q hq => by
  obtain ⟨p, hp, rfl⟩ := List.mem_map.mp hq
  obtain ⟨h1, h2, h3⟩ := h p (List.mem_reverse.mp hp)
  exact ⟨h1, by show -b ≤ -p.2; omega, by show -p.2 ≤ b; omega⟩
theorem OkC.app {c d : List Pc} (h : OkC c) (g : OkC d) : OkC (c ++ d) := fun p hp => (List.mem_append.mp hp).elim (h p) (g p)
theorem OkC.sub {c d : List Pc} (h : OkC c) (g : ∀ p ∈ d, p ∈ c) : OkC d := fun p hp => h p (g p hp)
theorem split_at {c : List Pc} {i : Nat} (h : i < c.length) : c = c.take i ++ [c[i]] ++ c.drop (i + 1) := by
  have : c.take i ++ [c[i]] = c.take (i + 1) := by rw [List.take_succ_eq_append_getElem h]
  rw [this, List.take_append_drop]
theorem split_at2 {c : List Pc} {i : Nat} (h : i + 1 < c.length) : c = c.take i ++ [c[i], c[i + 1]] ++ c.drop (i + 2) := by
  have h1 := split_at (c := c) (i := i + 1) h
  have h2 : c.take (i + 1) = c.take i ++ [c[i]] := List.take_succ_eq_append_getElem (by omega)
  rw [h2] at h1
  simpa using h1
theorem nf_bd {b : Int} (b0 : 0 ≤ b) : ∀ {c : List Pc}, (∀ p ∈ c, -b ≤ p.2 ∧ p.2 ≤ b) → ∀ p ∈ nf c, -(c.length * b) ≤ p.2 ∧ p.2 ≤ c.length * b
  | [], _, p, h => by cases h
  | q :: c, hc, p, h => by
    have ih := nf_bd b0 (c := c) fun z hz => hc z (by simp [hz])
    have hq := hc q (by simp)
    have e : ((q :: c).length : Int) * b = c.length * b + b := by
      rw [List.length_cons, Int.natCast_succ, Int.add_mul, Int.one_mul]
    have hm : 0 ≤ (c.length : Int) * b := Int.mul_nonneg (by omega) b0
    rw [e]
    have up : ∀ z ∈ nf c, -(c.length * b + b) ≤ z.2 ∧ z.2 ≤ c.length * b + b := fun z hz => by
      have := ih z hz
      omega
    change p ∈ ps q (nf c) at h
    unfold ps at h
    split at h
    · exact up p h
    · split at h
      · rw [List.mem_singleton] at h
        subst h
        omega
      · rename_i l r hw
        rw [hw] at up ih
        split at h
        · split at h
          · exact up p (by simp [h])
          · rcases List.mem_cons.mp h with z | z
            · have := ih l (by simp)
              subst z
              simp only
              omega
            · exact up p (by simp [z])
        · rcases List.mem_cons.mp h with z | z
          · subst z; omega
          · exact up p z
/-! ### the row of a cord's nails -/
def lts (c : List Pc) : List Nat := (c.map fun p => p.1.cps.toList).flatten
theorem glue_fold : ∀ (r : List Str) (a : Array Nat), (r.foldl (fun acc p => acc ++ (tx []).cps ++ p.cps) a).toList = a.toList ++ (r.map (·.cps.toList)).flatten
  | [], a => by simp
  | s :: r, a => by
    rw [List.foldl_cons, glue_fold r]
    simp [tx]
theorem join_nil (ss : List Str) : Txt.join (tx []) ss = tx (ss.map (·.cps.toList)).flatten := by
  cases ss with
  | nil => rfl
  | cons s r =>
    show (⟨r.foldl (fun acc p => acc ++ (tx []).cps ++ p.cps) s.cps⟩ : Str) = _
    rw [tx_of (⟨r.foldl (fun acc p => acc ++ (tx []).cps ++ p.cps) s.cps⟩ : Str)]
    rw [glue_fold r s.cps]
    rfl
def Nl (c : List Pc) : Prop := ∀ p ∈ c, isNail p.1
theorem Gds.nl {b : Int} {c : List Pc} (h : Gds b c) : Nl c := fun p hp => (h p hp).1
theorem Nl.ok {c : List Pc} (h : Nl c) : OkC c := fun p hp => (h p hp).ok
theorem Nl.nf {c : List Pc} (h : Nl c) : Nl (nf c) := fun q hq => by
  obtain ⟨p, hp, e⟩ := nf_nails hq
  rw [e]
  exact h p hp
theorem Nl.app {c d : List Pc} (h : Nl c) (g : Nl d) : Nl (c ++ d) := fun p hp => (List.mem_append.mp hp).elim (h p) (g p)
theorem Nl.con {c : List Pc} (h : Nl c) : Nl (con c) := fun q hq => by
  obtain ⟨p, hp, rfl⟩ := List.mem_map.mp hq
  exact h p (List.mem_reverse.mp hp)
theorem Nl.tail {p : Pc} {c : List Pc} (h : Nl (p :: c)) : Nl c := fun q hq => h q (by simp [hq])
theorem lts_cons {p : Pc} {c : List Pc} {x : Nat} (h : p.1 = tx [x]) : lts (p :: c) = x :: lts c := by
  unfold lts
  rw [List.map_cons, List.flatten_cons, h, tx_cps]
  rfl
theorem lts_len : ∀ {c : List Pc}, Nl c → (lts c).length = c.length
  | [], _ => rfl
  | p :: c, h => by
    obtain ⟨x, hx, _⟩ := h p (by simp)
    rw [lts_cons hx, List.length_cons, List.length_cons, lts_len h.tail]
theorem nl_sum : ∀ {c : List Pc}, Nl c → ((c.map fun p => p.1).map (·.length)).sum = c.length
  | [], _ => rfl
  | p :: c, h => by
    obtain ⟨x, hx, _⟩ := h p (by simp)
    rw [List.map_cons, List.map_cons, List.sum_cons, nl_sum h.tail, hx, tx_len, List.length_cons, List.length_cons]
    simp
    omega
/-- the product of the turns -/
def prd (c : List Pc) : Int := c.foldr (fun p z => p.2 * z) 1
theorem prd_ne : ∀ {w : List Pc}, Red w → prd w ≠ 0
  | [], _ => by decide
  | p :: w, h => Int.mul_ne_zero h.head (prd_ne h.tail)
end NL

/-! How many times a row stands in a cord. -/
namespace NL
open PySem PySem.Spec L2
open PyProof.Rows hiding St

def fal (t : Int) : Nat → Int
  | 0 => 1
  | m + 1 => fal t m * (t - m)
def fac : Nat → Int
  | 0 => 1
  | m + 1 => fac m * (m + 1)
theorem fac_pos : ∀ m, 0 < fac m
  | 0 => by decide
  | m + 1 => Int.mul_pos (fac_pos m) (by omega)
theorem fal_succ (t : Int) : ∀ m, fal (t + 1) (m + 1) = (t + 1) * fal t m
  | 0 => by simp [fal]
  | m + 1 => by
    have ih := fal_succ t m
    show fal (t + 1) (m + 1) * (t + 1 - ((m + 1 : Nat) : Int)) = (t + 1) * (fal t m * (t - m))
    rw [ih, Int.mul_assoc]
    congr 2
    omega
theorem fal_pascal (t : Int) (m : Nat) : fal (t + 1) (m + 1) = fal t (m + 1) + (m + 1) * fal t m := by
  rw [fal_succ]
  show _ = fal t m * (t - m) + _
  grind
theorem up_down {p : Int → Prop} (h0 : p 0) (hs : ∀ t, p t ↔ p (t + 1)) (t : Int) : p t := by
  have up : ∀ n : Nat, p n := fun n => by
    induction n with
    | zero => exact h0
    | succ n ih => exact (hs _).mp ih
  have down : ∀ n : Nat, p (-(n : Int)) := fun n => by
    induction n with
    | zero => exact h0
    | succ n ih => exact (hs _).mpr (by rw [show -((n + 1 : Nat) : Int) + 1 = -(n : Int) by omega]; exact ih)
  rcases Int.le_total 0 t with h | h
  · have := up t.toNat
    rwa [Int.toNat_of_nonneg h] at this
  · have := down (-t).toNat
    rwa [Int.toNat_of_nonneg (by omega), Int.neg_neg] at this
theorem fal0 : ∀ m, fal 0 (m + 1) = 0
  | 0 => by simp [fal]
  | m + 1 => by
    show fal 0 (m + 1) * _ = 0
    rw [fal0 m, Int.zero_mul]
theorem fac_dvd : ∀ (m : Nat) (t : Int), fac m ∣ fal t m
  | 0, _ => ⟨1, rfl⟩
  | m + 1, t => by
    have ih := fac_dvd m
    refine up_down (p := fun t => fac (m + 1) ∣ fal t (m + 1)) ?_ (fun t => ?_) t
    · rw [fal0]; exact Int.dvd_zero _
    · have h : fac (m + 1) ∣ (m + 1) * fal t m := by
        obtain ⟨c, hc⟩ := ih t
        exact ⟨c, by rw [hc]; show _ = fac m * (m + 1) * c; grind⟩
      rw [fal_pascal]
      constructor
      · exact fun z => Int.dvd_add z h
      · intro z
        have := Int.dvd_sub z h
        rwa [Int.add_sub_cancel] at this
/-- the ways to take m of t -/
def ch (t : Int) (m : Nat) : Int := fal t m / fac m
theorem ch_mul (t : Int) (m : Nat) : ch t m * fac m = fal t m := Int.ediv_mul_cancel (fac_dvd m t)
theorem ch_eq {t z : Int} {m : Nat} (h : z * fac m = fal t m) : ch t m = z := by
  unfold ch
  rw [← h, Int.mul_ediv_cancel _ (Int.ne_of_gt (fac_pos m))]
theorem ch_zero (t : Int) : ch t 0 = 1 := ch_eq rfl
theorem ch_pascal (t : Int) (m : Nat) : ch (t + 1) (m + 1) = ch t (m + 1) + ch t m := by
  apply ch_eq
  have h1 := ch_mul t (m + 1)
  have h2 := ch_mul t m
  rw [fal_pascal, Int.add_mul, h1, ← h2]
  show _ + _ * (fac m * (m + 1)) = _
  grind
theorem ch0 (m : Nat) : ch 0 (m + 1) = 0 := ch_eq (by rw [fal0, Int.zero_mul])
theorem ch1 (m : Nat) : ch 1 (m + 2) = 0 := by
  have := ch_pascal 0 (m + 1)
  rw [ch0, ch0] at this
  exact this
theorem ch_step (t : Int) (m : Nat) : ch t m * (t - m) / (m + 1) = ch t (m + 1) := by
  have h1 := ch_mul t (m + 1)
  have h2 := ch_mul t m
  have hp := fac_pos m
  have key : ch t m * (t - m) = ch t (m + 1) * (m + 1) := by
    apply Int.eq_of_mul_eq_mul_right (Int.ne_of_gt hp)
    have e1 : ch t (m + 1) * (fac m * (m + 1)) = fal t m * (t - m) := h1
    rw [← h2] at e1
    grind
  rw [key, Int.mul_ediv_cancel _ (by omega)]

/-! ### sums over runs of one nail at the beginning -/
def xx (n : Str) (A : List Nat → Int) (f : Nat → Int) : Nat → List Nat → Int
  | m, [] => A [] * f m
  | m, x :: r => A (x :: r) * f m + if tx [x] = n then xx n A f (m + 1) r else 0
/-- a piece more, to what a row's beginnings (turned round) stand for -/
def stp (p : Pc) (A : List Nat → Int) (r : List Nat) : Int := xx p.1 A (ch p.2) 0 r
def one0 : List Nat → Int
  | [] => 1
  | _ :: _ => 0
/-- the times of a row, the row turned round -/
def tim (c : List Pc) : List Nat → Int := c.foldl (fun A p => stp p A) one0
theorem tim_app (c : List Pc) (p : Pc) : tim (c ++ [p]) = stp p (tim c) := by simp [tim, List.foldl_append]
/-! sums of sums -/
theorem xx_shift {n : Str} {A : List Nat → Int} {g : Nat → Int} : ∀ (r : List Nat) (m : Nat), xx n A (fun j => g (j + 1)) m r = xx n A g (m + 1) r
  | [], m => rfl
  | x :: r, m => by simp only [xx, xx_shift r (m + 1)]
theorem xx_add {n : Str} {A : List Nat → Int} {f g : Nat → Int} : ∀ (r : List Nat) (m : Nat), xx n A (fun j => f j + g j) m r = xx n A f m r + xx n A g m r
  | [], m => by simp only [xx, Int.mul_add]
  | x :: r, m => by
    simp only [xx, xx_add r (m + 1), Int.mul_add]
    split <;> omega
theorem xx_mul {n : Str} {A : List Nat → Int} {f : Nat → Int} {b : Int} : ∀ (r : List Nat) (m : Nat), xx n A (fun j => b * f j) m r = b * xx n A f m r
  | [], m => by simp only [xx]; grind
  | x :: r, m => by
    simp only [xx, xx_mul r (m + 1)]
    split <;> grind
theorem xx_zero {n : Str} {A : List Nat → Int} {f : Nat → Int} : ∀ (r : List Nat) (m : Nat), (∀ j, m ≤ j → f j = 0) → xx n A f m r = 0
  | [], m, h => by simp [xx, h m (Nat.le_refl m)]
  | x :: r, m, h => by
    simp only [xx, h m (Nat.le_refl m), xx_zero r (m + 1) fun j hj => h j (by omega)]
    simp
def SS (A B : List Nat → Int) : List Nat → List Nat → Int
  | pre, [] => A pre * B []
  | pre, y :: suf => A pre * B (y :: suf) + SS A B (y :: pre) suf
theorem SS_key (p : Pc) (A B : List Nat → Int) : ∀ (suf pre : List Nat), SS (stp p A) B pre suf + A pre * stp p B suf = SS A (stp p B) pre suf + xx p.1 A (fun j => xx p.1 B (ch p.2) j suf) 0 pre
  | [], pre => by
    show stp p A pre * B [] + A pre * stp p B [] = A pre * stp p B [] + xx p.1 A (fun j => B [] * ch p.2 j) 0 pre
    rw [xx_mul]
    show xx p.1 A (ch p.2) 0 pre * B [] + _ = _
    grind
  | y :: suf, pre => by
    have ih := SS_key p A B suf (y :: pre)
    have e1 : xx p.1 A (fun j => xx p.1 B (ch p.2) j suf) 0 (y :: pre) = A (y :: pre) * stp p B suf + if tx [y] = p.1 then xx p.1 A (fun j => xx p.1 B (ch p.2) j suf) 1 pre else 0 := rfl
    rw [e1] at ih
    have e2 : xx p.1 A (fun j => xx p.1 B (ch p.2) j (y :: suf)) 0 pre = B (y :: suf) * stp p A pre + if tx [y] = p.1 then xx p.1 A (fun j => xx p.1 B (ch p.2) j suf) 1 pre else 0 := by
      show xx p.1 A (fun j => B (y :: suf) * ch p.2 j + if tx [y] = p.1 then xx p.1 B (ch p.2) (j + 1) suf else 0) 0 pre = _
      rw [xx_add, xx_mul]
      congr 1
      split
      · exact xx_shift (g := fun j => xx p.1 B (ch p.2) j suf) pre 0
      · exact xx_zero pre 0 fun _ _ => rfl
    rw [e2]
    show stp p A pre * B (y :: suf) + SS (stp p A) B (y :: pre) suf + A pre * stp p B (y :: suf) = A pre * stp p B (y :: suf) + SS A (stp p B) (y :: pre) suf + _
    grind
theorem SS_one (p : Pc) (A B : List Nat → Int) (row : List Nat) : SS (stp p A) B [] row = SS A (stp p B) [] row := by
  have h := SS_key p A B row []
  have e : xx p.1 A (fun j => xx p.1 B (ch p.2) j row) 0 [] = A [] * stp p B row := rfl
  rw [e] at h
  omega
/-- what a cord's end makes of what rows stand for behind it -/
def wyA (c : List Pc) (B : List Nat → Int) : List Nat → Int := c.foldr (fun p B => stp p B) B
def wy (c : List Pc) : List Nat → Int := wyA c one0
theorem SS_all (row : List Nat) : ∀ (c : List Pc) (A B : List Nat → Int), SS (c.foldl (fun A p => stp p A) A) B [] row = SS A (wyA c B) [] row
  | [], A, B => rfl
  | p :: c, A, B => by
    rw [List.foldl_cons, SS_all row c]
    exact SS_one p A _ row
theorem SS_right (A : List Nat → Int) : ∀ (suf pre : List Nat), SS A one0 pre suf = A (suf.reverse ++ pre)
  | [], pre => by simp [SS, one0]
  | y :: suf, pre => by simp [SS, one0, SS_right A suf]
theorem SS_left0 (B : List Nat → Int) : ∀ (suf pre : List Nat) (y : Nat), SS one0 B (y :: pre) suf = 0
  | [], pre, y => by simp [SS, one0]
  | z :: suf, pre, y => by simp [SS, one0, SS_left0 B suf]
theorem SS_left (B : List Nat → Int) (suf : List Nat) : SS one0 B [] suf = B suf := by
  cases suf with
  | nil => simp [SS, one0]
  | cons y suf => simp [SS, one0, SS_left0]
theorem wy_tim (c : List Pc) (row : List Nat) : wy c row = tim c row.reverse := by
  have h := SS_all row c one0 one0
  rw [SS_right, SS_left, List.append_nil] at h
  exact h.symm
theorem tim_wy (c : List Pc) (row : List Nat) : tim c row = wy c row.reverse := by rw [wy_tim, List.reverse_reverse]

/-! ### pieces put together -/
theorem stp_zero (n : Str) (A : List Nat → Int) : stp (n, 0) A = A := by
  funext r
  show xx n A (ch 0) 0 r = A r
  cases r with
  | nil => show A [] * ch 0 0 = _; rw [ch_zero, Int.mul_one]
  | cons x r =>
    show A (x :: r) * ch 0 0 + (if tx [x] = n then xx n A (ch 0) 1 r else 0) = _
    rw [ch_zero, xx_zero r 1 fun j hj => by obtain ⟨i, rfl⟩ : ∃ i, j = i + 1 := ⟨j - 1, by omega⟩; exact ch0 i]
    simp
/-- one turn more -/
def bump (n : Str) (A : List Nat → Int) : List Nat → Int
  | [] => A []
  | x :: r => A (x :: r) + if tx [x] = n then A r else 0
theorem stp_succ (n : Str) (t : Int) (A : List Nat → Int) : stp (n, t + 1) A = bump n (stp (n, t) A) := by
  funext r
  show xx n A (ch (t + 1)) 0 r = bump n (fun r => xx n A (ch t) 0 r) r
  cases r with
  | nil => show A [] * ch (t + 1) 0 = A [] * ch t 0; rw [ch_zero, ch_zero]
  | cons x r =>
    show A (x :: r) * ch (t + 1) 0 + (if tx [x] = n then xx n A (ch (t + 1)) 1 r else 0) = A (x :: r) * ch t 0 + (if tx [x] = n then xx n A (ch t) 1 r else 0) + if tx [x] = n then xx n A (ch t) 0 r else 0
    rw [ch_zero, ch_zero, ← xx_shift (g := ch (t + 1)) r 0]
    have : (fun j => ch (t + 1) (j + 1)) = fun j => ch t (j + 1) + ch t j := funext fun j => ch_pascal t j
    rw [this, xx_add, xx_shift (g := ch t) r 0]
    simp only [Nat.zero_add]
    split <;> omega
theorem bump_inj {n : Str} {A B : List Nat → Int} (h : bump n A = bump n B) : A = B := by
  funext r
  induction r with
  | nil => exact congrFun h []
  | cons x r ih =>
    have := congrFun h (x :: r)
    simp only [bump, ih] at this
    omega
theorem stp_stp (n : Str) (a b : Int) (A : List Nat → Int) : stp (n, a) (stp (n, b) A) = stp (n, a + b) A := by
  refine up_down (p := fun a => stp (n, a) (stp (n, b) A) = stp (n, a + b) A) ?_ (fun a => ?_) a
  · rw [stp_zero, Int.zero_add]
  · rw [show a + 1 + b = a + b + 1 by omega, stp_succ, stp_succ]
    exact ⟨fun h => by rw [h], bump_inj⟩
theorem wyA_ps (p : Pc) (w : List Pc) (B : List Nat → Int) : wyA (ps p w) B = stp p (wyA w B) := by
  unfold ps
  split
  · rename_i h
    have : p = (p.1, 0) := Prod.ext rfl h
    rw [this, stp_zero]
  · cases w with
    | nil => rfl
    | cons l r =>
      simp only
      split
      · rename_i e
        have el : l = (p.1, l.2) := Prod.ext e rfl
        have key : stp p (wyA (l :: r) B) = stp (p.1, p.2 + l.2) (wyA r B) := by
          show stp p (stp l (wyA r B)) = _
          rw [el]
          exact stp_stp p.1 p.2 l.2 (wyA r B)
        rw [key]
        split
        · rename_i hs
          rw [hs, stp_zero]
        · rfl
      · rfl
theorem wyA_act (c w : List Pc) (B : List Nat → Int) : wyA (act c w) B = wyA c (wyA w B) := by
  induction c with
  | nil => rfl
  | cons p c ih =>
    rw [act_cons, wyA_ps, ih]
    rfl
theorem wyA_nf (c : List Pc) (B : List Nat → Int) : wyA (nf c) B = wyA c B := wyA_act c [] B
theorem wyA_app (c d : List Pc) (B : List Nat → Int) : wyA (c ++ d) B = wyA c (wyA d B) := by simp [wyA, List.foldr_append]
theorem wy_nf (c : List Pc) : wy (nf c) = wy c := wyA_nf c one0
theorem wy_congr {c d : List Pc} (h : nf c = nf d) : wy c = wy d := by rw [← wy_nf c, h, wy_nf]
theorem wy_fall {c : List Pc} (h : nf c = []) : wy c = one0 := by rw [← wy_nf c, h]; rfl
theorem tim_congr {c d : List Pc} (h : nf c = nf d) : tim c = tim d := funext fun r => by rw [tim_wy, tim_wy, wy_congr h]
theorem ch_one (t : Int) : ch t 1 = t := ch_eq (by simp [fac, fal])
/-! ### how great -/
theorem two_le {a b : Nat} (h : a ≤ b) : (2 : Nat) ^ a ≤ 2 ^ b := Nat.pow_le_pow_right (by decide) h
theorem fal_bd {t : Int} (h : t.natAbs ≤ 2 ^ 120) : ∀ m : Nat, m ≤ 64 → (fal t m).natAbs ≤ 2 ^ (121 * m)
  | 0, _ => by show (1 : Int).natAbs ≤ 2 ^ (121 * 0); decide
  | m + 1, hm => by
    have ih := fal_bd h m (by omega)
    show (fal t m * (t - m)).natAbs ≤ _
    rw [Int.natAbs_mul, Nat.mul_succ, Nat.pow_add]
    refine Nat.mul_le_mul ih ?_
    have e1 : (2 : Nat) ^ 120 = 1329227995784915872903807060280344576 := by decide
    have e2 : (2 : Nat) ^ 121 = 2658455991569831745807614120560689152 := by decide
    omega
theorem ch_bd {t : Int} (h : t.natAbs ≤ 2 ^ 120) {m : Nat} (hm : m ≤ 64) : (ch t m).natAbs ≤ 2 ^ (121 * m) := by
  refine Nat.le_trans ?_ (fal_bd h m hm)
  rw [← ch_mul t m, Int.natAbs_mul]
  exact Nat.le_mul_of_pos_right _ (by have := fac_pos m; omega)
theorem fac_bd : ∀ m : Nat, m ≤ 64 → (fac m).natAbs ≤ 2 ^ (7 * m)
  | 0, _ => by decide
  | m + 1, hm => by
    have ih := fac_bd m (by omega)
    show (fac m * (m + 1)).natAbs ≤ _
    rw [Int.natAbs_mul, Nat.mul_succ, Nat.pow_add]
    refine Nat.mul_le_mul ih ?_
    have e2 : (2 : Nat) ^ 7 = 128 := by decide
    omega
/-- how long the run of a nail at the beginning is -/
def lead (n : Str) : List Nat → Nat
  | [] => 0
  | x :: r => if tx [x] = n then lead n r + 1 else 0
/-- no runs longer than this -/
def RL (M : Nat) : List Nat → Prop
  | [] => True
  | x :: r => lead (tx [x]) r + 1 ≤ M ∧ RL M r
theorem RL.lead {M : Nat} {n : Str} : ∀ {r : List Nat}, RL M r → lead n r ≤ M
  | [], _ => Nat.zero_le _
  | x :: r, h => by
    unfold NL.lead
    split
    · rename_i e
      rw [← e]
      exact h.1
    · exact Nat.zero_le _
theorem lead_le {n : Str} : ∀ {r : List Nat}, lead n r ≤ r.length
  | [] => Nat.zero_le _
  | x :: r => by
    unfold lead
    have := lead_le (n := n) (r := r)
    split <;> simp <;> omega
theorem RL.of {M : Nat} : ∀ {r : List Nat}, r.length ≤ M → RL M r
  | [], _ => trivial
  | x :: r, h => ⟨by have := lead_le (n := tx [x]) (r := r); simp at h; omega, RL.of (by simp at h; omega)⟩
theorem RL.tail {M : Nat} {x : Nat} {r : List Nat} (h : RL M (x :: r)) : RL M r := h.2
theorem RL.drop {M : Nat} : ∀ {r : List Nat} (i : Nat), RL M r → RL M (r.drop i)
  | r, 0, h => h
  | [], i + 1, h => h
  | x :: r, i + 1, h => by rw [List.drop_succ_cons]; exact RL.drop i h.2
/-- rows that end a row, and what they stand for, are so great at most -/
def Bdd (M N : Nat) (A : List Nat → Int) : Prop := ∀ r, RL M r → (A r).natAbs ≤ 2 ^ N
theorem xx_bd {M N F : Nat} {n : Str} {A : List Nat → Int} {f : Nat → Int} (hA : Bdd M N A) (hM : M ≤ 64) : ∀ (r : List Nat) (m : Nat), RL M r → m + lead n r ≤ M → (∀ j, j ≤ M → (f j).natAbs ≤ 2 ^ F) → (xx n A f m r).natAbs ≤ (lead n r + 1) * 2 ^ (N + F)
  | [], m, h, hl, hf => by
    show (A [] * f m).natAbs ≤ (0 + 1) * _
    rw [Int.natAbs_mul, Nat.pow_add, Nat.zero_add, Nat.one_mul]
    exact Nat.mul_le_mul (hA _ h) (hf m (by omega))
  | x :: r, m, h, hl, hf => by
    have e1 : (A (x :: r) * f m).natAbs ≤ 2 ^ (N + F) := by
      rw [Int.natAbs_mul, Nat.pow_add]
      exact Nat.mul_le_mul (hA _ h) (hf m (by omega))
    unfold xx NL.lead at *
    split
    · rename_i e
      rw [if_pos e] at hl
      have ih := xx_bd (n := n) hA hM r (m + 1) h.2 (by omega) hf
      rw [Nat.add_mul, Nat.one_mul]
      omega
    · rw [Nat.zero_add, Nat.one_mul, Int.add_zero]
      exact e1
theorem stp_bd {M N : Nat} {p : Pc} {A : List Nat → Int} (hA : Bdd M N A) (hM : M ≤ 64) (hp : p.2.natAbs ≤ 2 ^ 120) : Bdd M (N + (121 * M + 7)) (stp p A) := fun r h => by
  have h1 := xx_bd (n := p.1) (f := ch p.2) (F := 121 * M) hA hM r 0 h (by have := h.lead (n := p.1); omega) fun j hj => Nat.le_trans (ch_bd hp (by omega)) (two_le (by omega))
  have h2 := h.lead (n := p.1)
  have e : (2 : Nat) ^ (N + (121 * M + 7)) = 128 * 2 ^ (N + 121 * M) := by
    rw [show N + (121 * M + 7) = 7 + (N + 121 * M) by omega, Nat.pow_add]
  rw [e]
  exact Nat.le_trans h1 (Nat.mul_le_mul (by omega) (Nat.le_refl _))
theorem one_bd {M : Nat} : Bdd M 0 one0 := fun r _ => by cases r <;> simp [one0]
theorem tim_bd {M : Nat} (hM : M ≤ 64) : ∀ (c : List Pc) {A : List Nat → Int} {N : Nat}, (∀ p ∈ c, p.2.natAbs ≤ 2 ^ 120) → Bdd M N A → Bdd M (N + c.length * (121 * M + 7)) (c.foldl (fun A p => stp p A) A)
  | [], A, N, _, h => by simpa using h
  | p :: c, A, N, hc, h => by
    have := tim_bd hM c (fun q hq => hc q (by simp [hq])) (stp_bd h hM (hc p (by simp)))
    rw [List.foldl_cons, List.length_cons, Nat.add_mul, Nat.one_mul]
    rw [show N + (c.length * (121 * M + 7) + (121 * M + 7)) = N + (121 * M + 7) + c.length * (121 * M + 7) by omega]
    exact this
/-- what is still to come, behind the first so many -/
def rs (n : Str) (A : List Nat → Int) (f : Nat → Int) (m : Nat) : List Nat → Int
  | [] => 0
  | x :: r => if tx [x] = n then xx n A f (m + 1) r else 0
theorem rs_cons {n : Str} {A : List Nat → Int} {f : Nat → Int} {m x : Nat} {r : List Nat} : rs n A f m (x :: r) = if tx [x] = n then xx n A f (m + 1) r else 0 := rfl
theorem xx_rs {n : Str} {A : List Nat → Int} {f : Nat → Int} {m : Nat} {r : List Nat} : xx n A f m r = A r * f m + rs n A f m r := by
  cases r with
  | nil => simp [xx, rs]
  | cons x r => rfl
theorem mul_le {i j : Int} {a b : Nat} (h1 : i.natAbs ≤ 2 ^ a) (h2 : j.natAbs ≤ 2 ^ b) (h : a + b < 999990) : CMulW i j :=
  mulWn (a := a) (b := b) (Nat.lt_of_le_of_lt h1 (Nat.pow_lt_pow_right (by decide) (by omega))) (Nat.lt_of_le_of_lt h2 (Nat.pow_lt_pow_right (by decide) (by omega))) (by omega)
/-- turns of at most 120 binary figures -/
def Tb (c : List Pc) : Prop := ∀ p ∈ c, p.2.natAbs ≤ 2 ^ 120
theorem step_bd {t : Int} (ht : t.natAbs ≤ 2 ^ 120) {i : Nat} (hi : i ≤ 64) : (t - i).natAbs ≤ 2 ^ 121 := by
  have e1 : (2 : Nat) ^ 120 = 1329227995784915872903807060280344576 := by decide
  have e2 : (2 : Nat) ^ 121 = 2658455991569831745807614120560689152 := by decide
  omega
theorem rng1 {m : Nat} : rng 0 1 m = (List.range m).map fun i : Nat => (i : Int) := by
  unfold rng
  apply List.map_congr_left
  intro i _
  omega
theorem rng_next {m i : Nat} {k : Nat} {r : List Nat} (h : k :: r = (List.range m).drop i) : i < m ∧ k = i ∧ r = (List.range m).drop (i + 1) := by
  have hlt : i < m := by
    have := congrArg List.length h
    simp at this
    omega
  rw [List.drop_eq_getElem_cons (by simpa using hlt)] at h
  obtain ⟨h1, h2⟩ := List.cons.inj h
  exact ⟨hlt, by simpa using h1, h2⟩
theorem rng_end {m i : Nat} (h : [] = (List.range m).drop i) (hi : i ≤ m) : i = m := by
  have := congrArg List.length h
  simp at this
  omega
theorem wy_bd {M : Nat} (hM : M ≤ 64) : ∀ {c : List Pc}, Tb c → Bdd M (c.length * (121 * M + 7)) (wy c)
  | [], _ => by rw [List.length_nil, Nat.zero_mul]; exact one_bd
  | p :: c, h => by
    have := stp_bd (p := p) (wy_bd hM (c := c) fun q hq => h q (by simp [hq])) hM (h p (by simp))
    rw [List.length_cons, Nat.add_mul, Nat.one_mul]
    exact this
theorem Tb.tail {p : Pc} {c : List Pc} (h : Tb (p :: c)) : Tb c := fun q hq => h q (by simp [hq])
theorem Tb.of {b : Int} {c : List Pc} (h : Gds b c) (hb : b ≤ 1000000000000000000000000000000) : Tb c := fun p hp => by
  obtain ⟨_, h1, h2⟩ := h p hp
  have e1 : (2 : Nat) ^ 120 = 1329227995784915872903807060280344576 := by decide
  omega
theorem xx_run {n : Str} {x : Nat} (e : tx [x] = n) {f : Nat → Int} : ∀ (m k : Nat), xx n one0 f k (List.replicate m x) = f (k + m)
  | 0, k => by simp [xx, one0]
  | m + 1, k => by
    simp only [List.replicate_succ, xx, one0, if_pos e, xx_run e m (k + 1)]
    rw [Int.zero_mul, Int.zero_add]
    congr 1
    omega
theorem xx_off {n : Str} {x y : Nat} (e : tx [x] = n) (ne : tx [y] ≠ n) {f : Nat → Int} {r : List Nat} : ∀ (m k : Nat), xx n one0 f k (List.replicate m x ++ y :: r) = 0
  | 0, k => by simp [xx, one0, ne]
  | m + 1, k => by
    simp only [List.replicate_succ, List.cons_append, xx, one0, if_pos e, xx_off e ne m (k + 1)]
    simp
theorem xx_same {n : Str} {A B : List Nat → Int} {f : Nat → Int} {x : Nat} (h : ∀ m, A (List.replicate m x) = B (List.replicate m x)) : ∀ (m k : Nat), xx n A f k (List.replicate m x) = xx n B f k (List.replicate m x)
  | 0, k => by
    have := h 0
    simp only [List.replicate_zero] at this
    simp only [List.replicate_zero, xx, this]
  | m + 1, k => by
    have := h (m + 1)
    simp only [List.replicate_succ] at this
    simp only [List.replicate_succ, xx, this, xx_same h m (k + 1)]
theorem stp_side {p : Pc} {A : List Nat → Int} {x : Nat} (ne : tx [x] ≠ p.1) (m : Nat) : stp p A (List.replicate m x) = A (List.replicate m x) := by
  cases m with
  | zero => simp [stp, xx, ch_zero]
  | succ m => simp [stp, xx, ch_zero, List.replicate_succ, ne]
def tab (A : List Nat → Int) (l : List Nat) : List Int := (List.range (l.length + 1)).map fun e => A (l.take e).reverse
theorem tab_len {A : List Nat → Int} {l : List Nat} : (tab A l).length = l.length + 1 := by simp [tab]
theorem tab_at {A : List Nat → Int} {l : List Nat} {e : Nat} (h : e ≤ l.length) : (tab A l)[e]? = some (A (l.take e).reverse) := by
  unfold tab
  rw [List.getElem?_map, List.getElem?_range (by omega)]
  rfl
theorem tab_init {l : List Nat} : (tab one0 l).map D.int = D.int 1 :: ([] ++ l.map fun _ => D.int 0) := by
  rw [List.nil_append]
  unfold tab
  rw [List.range_succ_eq_map, List.map_cons, List.map_cons, List.map_map, List.map_map]
  congr 1
  apply List.ext_getElem
  · simp
  · intro i h1 h2
    simp at h1 h2
    simp only [List.getElem_map, List.getElem_range, Function.comp]
    have : (l.take (i + 1)).reverse ≠ [] := by
      simp
      intro z
      rw [z] at h2
      simp at h2
    cases q : (l.take (i + 1)).reverse with
    | nil => exact absurd q this
    | cons x r => rfl
theorem tab_of {A : List Nat → Int} {l : List Nat} {ts : List Int} (hl : ts.length = l.length + 1) (h : ∀ e, e ≤ l.length → ts[e]? = some (A (l.take e).reverse)) : ts = tab A l := by
  apply List.ext_getElem?
  intro i
  by_cases hi : i ≤ l.length
  · rw [h i hi, tab_at hi]
  · rw [List.getElem?_eq_none (by omega), List.getElem?_eq_none (by rw [tab_len]; omega)]
/-! ### rows with unlike neighbours -/
theorem lead0 {x : Nat} {r : List Nat} : lead (tx [x]) r = 0 ↔ r.head? ≠ some x := by
  cases r with
  | nil => simp [lead]
  | cons y r =>
    unfold lead
    by_cases e : y = x
    · subst e; simp
    · have : ¬ tx [y] = tx [x] := fun z => e (by simpa using tx_inj.mp z)
      simp [this, e]
theorem RL1_cons {x : Nat} {r : List Nat} : RL 1 (x :: r) ↔ r.head? ≠ some x ∧ RL 1 r := by
  rw [← lead0]
  show lead (tx [x]) r + 1 ≤ 1 ∧ _ ↔ _
  constructor
  · exact fun h => ⟨by omega, h.2⟩
  · exact fun h => ⟨by omega, h.2⟩
theorem RL1_snoc {x : Nat} : ∀ {r : List Nat}, RL 1 r → (∀ y, r.getLast? = some y → y ≠ x) → RL 1 (r ++ [x])
  | [], _, _ => RL1_cons.mpr ⟨by simp, trivial⟩
  | [y], h, g => RL1_cons.mpr ⟨by have := g y rfl; simp; exact fun z => this z.symm, RL1_cons.mpr ⟨by simp, trivial⟩⟩
  | y :: z :: r, h, g => by
    have h' := RL1_cons.mp h
    exact RL1_cons.mpr ⟨by simpa using h'.1, RL1_snoc (r := z :: r) h'.2 fun w hw => g w (by rw [List.getLast?_cons_cons]; exact hw)⟩
theorem RL1_rev : ∀ {r : List Nat}, RL 1 r → RL 1 r.reverse
  | [], _ => trivial
  | x :: r, h => by
    have h' := RL1_cons.mp h
    rw [List.reverse_cons]
    refine RL1_snoc (RL1_rev h'.2) fun y hy => ?_
    rw [List.getLast?_reverse] at hy
    intro z
    subst z
    exact h'.1 hy
/-- one of each nail at most -/
def stq (p : Pc) (A : List Nat → Int) : List Nat → Int
  | [] => A []
  | x :: r => A (x :: r) + if tx [x] = p.1 then A r * p.2 else 0
theorem stp_stq {p : Pc} {A : List Nat → Int} {r : List Nat} (h : RL 1 r) : stp p A r = stq p A r := by
  cases r with
  | nil => show A [] * ch p.2 0 = A []; rw [ch_zero, Int.mul_one]
  | cons x r =>
    show A (x :: r) * ch p.2 0 + (if tx [x] = p.1 then xx p.1 A (ch p.2) 1 r else 0) = A (x :: r) + if tx [x] = p.1 then A r * p.2 else 0
    rw [ch_zero, Int.mul_one]
    split
    · rename_i e
      have h' := RL1_cons.mp h
      rw [xx_rs, ch_one]
      have : rs p.1 A (ch p.2) 1 r = 0 := by
        cases r with
        | nil => rfl
        | cons y r =>
          rw [rs_cons, if_neg]
          intro z
          rw [← e] at z
          have : y = x := by simpa using tx_inj.mp z
          exact h'.1 (by rw [this]; rfl)
      rw [this, Int.add_zero]
    · rfl
theorem wy_nil (l : List Nat) : wy [] l = one0 l := rfl
theorem wy_cons1 {p : Pc} {c : List Pc} {x : Nat} {r : List Nat} (h : RL 1 (x :: r)) : wy (p :: c) (x :: r) = wy c (x :: r) + if tx [x] = p.1 then wy c r * p.2 else 0 := stp_stq (A := wy c) h
theorem wy_empty : ∀ c : List Pc, wy c [] = 1
  | [] => rfl
  | p :: c => by
    show stp p (wy c) [] = 1
    rw [stp_stq (r := []) trivial]
    exact wy_empty c
theorem wy_long : ∀ {c : List Pc} {l : List Nat}, RL 1 l → c.length < l.length → wy c l = 0
  | [], [], _, h => by simp at h
  | [], _ :: _, _, _ => rfl
  | p :: c, [], _, h => by simp at h
  | p :: c, x :: l, hr, h => by
    simp only [List.length_cons] at h
    rw [wy_cons1 hr, wy_long (c := c) hr (by simp; omega), wy_long (c := c) (RL1_cons.mp hr).2 (by omega)]
    simp
theorem lts_RL : ∀ {w : List Pc}, Nl w → Red w → RL 1 (lts w)
  | [], _, _ => trivial
  | [p], h, _ => by
    obtain ⟨x, hx, _⟩ := h p (by simp)
    rw [lts_cons hx]
    exact RL1_cons.mpr ⟨by simp [lts], trivial⟩
  | p :: q :: w, h, hr => by
    obtain ⟨x, hx, _⟩ := h p (by simp)
    obtain ⟨y, hy, _⟩ := h q (by simp)
    have ih := lts_RL h.tail hr.2.2
    rw [lts_cons hx]
    refine RL1_cons.mpr ⟨?_, ih⟩
    rw [lts_cons hy]
    intro z
    have : y = x := by simpa using z
    exact hr.2.1 (by rw [hx, hy, this])
/-- the row of runs stands in them as often as the turns' product -/
theorem wy_runs : ∀ {w : List Pc}, Nl w → Red w → wy w (lts w) = prd w
  | [], _, _ => rfl
  | p :: w, h, hr => by
    obtain ⟨x, hx, _⟩ := h p (by simp)
    have hrl := lts_RL h hr
    rw [lts_cons hx] at hrl ⊢
    rw [wy_cons1 hrl, wy_long hrl (by rw [List.length_cons, lts_len h.tail]; omega), if_pos hx.symm, wy_runs h.tail hr.tail]
    show 0 + prd w * p.2 = p.2 * prd w
    grind
theorem prd_bd : ∀ {c : List Pc}, Tb c → (prd c).natAbs ≤ 2 ^ (c.length * 120)
  | [], _ => by decide
  | p :: c, h => by
    show (p.2 * prd c).natAbs ≤ _
    rw [Int.natAbs_mul, List.length_cons, Nat.succ_mul, Nat.pow_add, Nat.mul_comm]
    exact Nat.mul_le_mul (prd_bd h.tail) (h p (by simp))
theorem prd_app (a b : List Pc) : prd (a ++ b) = prd a * prd b := by
  induction a with
  | nil => show prd b = 1 * prd b; omega
  | cons p a ih => show p.2 * prd (a ++ b) = p.2 * prd a * prd b; rw [ih, Int.mul_assoc]
theorem Tb.nf {b : Int} {c : List Pc} (h : Gds b c) (b0 : 0 ≤ b) (hb : b ≤ 1000000000000000000000000000000) (hl : c.length ≤ 100000) : Tb (nf c) := fun p hp => by
  have e1 : (2 : Nat) ^ 120 = 1329227995784915872903807060280344576 := by decide
  have := nf_bd b0 (fun p hp => (h p hp).2) p hp
  have hm : (c.length : Int) * b ≤ 100000 * 1000000000000000000000000000000 := Int.mul_le_mul (by omega) hb b0 (by omega)
  omega
/-! ### the shortest end of a row that stands in a cord -/
def fndL (b one other : List Pc) (row : List Nat) : List Nat → D
  | [] => .non
  | s :: r => if wy b (row.drop (row.length - s)) = 0 then fndL b one other row r else .tup [.str (tx (row.drop (row.length - s))), .int (wy one (row.drop (row.length - s))), .int (wy other (row.drop (row.length - s)))]
def told (one other : List Pc) : D := fndL (nf (con one ++ other)) one other (lts (nf (con one ++ other))) ((List.range (lts (nf (con one ++ other))).length).map (· + 1))
theorem wyA_low {B : List Nat → Int} {e : List Nat} (hr : RL 1 e) (hB : ∀ s, s <:+ e → s ≠ e → B s = one0 s) : ∀ (c : List Pc) (s : List Nat), s <:+ e → s ≠ e → wyA c B s = wy c s
  | [], s, h1, h2 => hB s h1 h2
  | p :: c, [], h1, h2 => by
    rw [wy_empty]
    show stp p (wyA c B) [] = 1
    rw [stp_stq (r := []) trivial]
    show wyA c B [] = 1
    rw [wyA_low hr hB c [] h1 h2, wy_empty]
  | p :: c, x :: r, h1, h2 => by
    have hs : RL 1 (x :: r) := by
      obtain ⟨t, ht⟩ := h1
      have := RL.drop t.length hr
      rw [← ht, List.drop_left] at this
      exact this
    have hr1 : r <:+ e := (List.suffix_cons x r).trans h1
    have hr2 : r ≠ e := fun z => by
      have := h1.length_le
      rw [← z, List.length_cons] at this
      omega
    rw [wy_cons1 hs]
    show stp p (wyA c B) (x :: r) = _
    rw [stp_stq hs]
    show wyA c B (x :: r) + (if tx [x] = p.1 then wyA c B r * p.2 else 0) = _
    rw [wyA_low hr hB c _ h1 h2, wyA_low hr hB c r hr1 hr2]
theorem wyA_top {B : List Nat → Int} {x : Nat} {r : List Nat} (hr : RL 1 (x :: r)) (hB : ∀ s, s <:+ (x :: r) → s ≠ x :: r → B s = one0 s) : ∀ c : List Pc, wyA c B (x :: r) = wy c (x :: r) + B (x :: r)
  | [] => by show B (x :: r) = 0 + B (x :: r); omega
  | p :: c => by
    rw [wy_cons1 hr]
    show stp p (wyA c B) (x :: r) = _
    rw [stp_stq hr]
    show wyA c B (x :: r) + (if tx [x] = p.1 then wyA c B r * p.2 else 0) = _
    rw [wyA_top hr hB c, wyA_low hr hB c r (List.suffix_cons x r) (fun z => by have := congrArg List.length z; simp at this)]
    omega
theorem told_nf (one other : List Pc) : nf (one ++ nf (con one ++ other)) = nf other := by
  rw [← nf_appR, ← List.append_assoc]
  have := (eqv_con one).app (Eqv.refl other)
  simpa using this.nf
/-- what is told of two cords: none just where they are one, else unlike numbers -/
theorem fnd_ne {one other : List Pc} (hn : Nl one) (hm : Nl other) : ∀ (ss : List Nat) (k : Nat), ss = ((List.range (lts (nf (con one ++ other))).length).drop k).map (· + 1) → (∀ s, s <:+ lts (nf (con one ++ other)) → s.length ≤ k → wy (nf (con one ++ other)) s = one0 s) →
    fndL (nf (con one ++ other)) one other (lts (nf (con one ++ other))) ss = .non ∧ (∀ s, s <:+ lts (nf (con one ++ other)) → wy (nf (con one ++ other)) s = one0 s) ∨
    ∃ (e : List Nat) (i j : Int), fndL (nf (con one ++ other)) one other (lts (nf (con one ++ other))) ss = .tup [.str (tx e), .int i, .int j] ∧ i ≠ j ∧ e <:+ lts (nf (con one ++ other)) := fun ss k hk hz => by
  have hb : RL 1 (lts (nf (con one ++ other))) := lts_RL (hn.con.app hm).nf (nf_red _)
  generalize hrow : lts (nf (con one ++ other)) = row at hk hz hb ⊢
  induction ss generalizing k with
  | nil =>
    left
    refine ⟨rfl, fun s hs => hz s hs ?_⟩
    have h1 := congrArg List.length hk
    simp at h1
    have := hs.length_le
    omega
  | cons s ss ih =>
    have hlt : k < row.length := by
      have h1 := congrArg List.length hk
      simp at h1
      omega
    rw [List.drop_eq_getElem_cons (by simpa using hlt), List.map_cons] at hk
    obtain ⟨h1, h2⟩ := List.cons.inj hk
    simp at h1
    subst h1
    unfold fndL
    split
    · rename_i h0
      refine ih (k + 1) h2 fun s hs hl => ?_
      rcases Nat.lt_or_ge s.length (k + 1) with w | w
      · exact hz s hs (by omega)
      · have es : s = row.drop (row.length - (k + 1)) := by
          rw [List.suffix_iff_eq_drop] at hs
          rw [hs]
          congr 1
          have := congrArg List.length hs
          simp at this
          omega
        rw [es, h0]
        cases hd : row.drop (row.length - (k + 1)) with
        | nil =>
          have := congrArg List.length hd
          simp at this
          omega
        | cons x r => rfl
    · rename_i h0
      right
      refine ⟨_, _, _, rfl, ?_, List.drop_suffix _ _⟩
      have hsuf : row.drop (row.length - (k + 1)) <:+ row := List.drop_suffix _ _
      have hlen : (row.drop (row.length - (k + 1))).length = k + 1 := by simp; omega
      have hre : RL 1 (row.drop (row.length - (k + 1))) := hb.drop _
      generalize row.drop (row.length - (k + 1)) = e at h0 hsuf hlen hre ⊢
      cases e with
      | nil => simp at hlen
      | cons x r =>
        have hB : ∀ s, s <:+ (x :: r) → s ≠ x :: r → wy (nf (con one ++ other)) s = one0 s := fun s hs hne => by
          refine hz s (hs.trans hsuf) ?_
          have l1 := hs.length_le
          have l2 : s.length ≠ (x :: r).length := fun z => hne (hs.eq_of_length z)
          omega
        have key : wy other (x :: r) = wy one (x :: r) + wy (nf (con one ++ other)) (x :: r) := by
          rw [← wyA_top hre hB one]
          show wy other _ = wyA one (wyA (nf (con one ++ other)) one0) _
          rw [← wyA_app]
          show wy other _ = wy (one ++ nf (con one ++ other)) _
          rw [wy_congr (told_nf one other)]
        omega
theorem told_same (one : List Pc) : told one one = .non := by
  unfold told
  rw [nf_con']
  rfl
theorem rng11 {n : Nat} : (rng 1 1 n).map D.int = ((List.range n).map (· + 1)).map fun s : Nat => D.int s := by
  unfold rng
  rw [List.map_map, List.map_map]
  apply List.map_congr_left
  intro i _
  simp only [Function.comp]
  congr 1
  omega
theorem Tb.app {c d : List Pc} (h : Tb c) (g : Tb d) : Tb (c ++ d) := fun p hp => (List.mem_append.mp hp).elim (h p) (g p)
theorem Tb.con {c : List Pc} (h : Tb c) : Tb (con c) := fun q hq => by
  obtain ⟨p, hp, rfl⟩ := List.mem_map.mp hq
  have := h p (List.mem_reverse.mp hp)
  show (-p.2).natAbs ≤ 2 ^ 120
  rw [Int.natAbs_neg]
  exact this
theorem lts_ok : ∀ {c : List Pc}, Nl c → ∀ x ∈ lts c, 97 ≤ x ∧ x ≤ 122
  | [], _, x, h => by simp [lts] at h
  | p :: c, hn, x, h => by
    obtain ⟨y, hy, h1, h2⟩ := hn p (by simp)
    rw [lts_cons hy] at h
    rcases List.mem_cons.mp h with z | z
    · rw [z]; exact ⟨h1, h2⟩
    · exact lts_ok hn.tail x z
theorem told_cases {one other : List Pc} (hn : Nl one) (hm : Nl other) : told one other = .non ∨ ∃ (e : List Nat) (i j : Int), told one other = .tup [.str (tx e), .int i, .int j] ∧ i ≠ j ∧ PyData.strOk (tx e) = true := by
  rcases fnd_ne hn hm _ 0 rfl (fun s _ hl => by
    have : s = [] := List.length_eq_zero_iff.mp (by omega)
    rw [this, wy_empty]; rfl) with h | ⟨e, i, j, h1, h2, h3⟩
  · exact .inl h.1
  · exact .inr ⟨e, i, j, h1, h2, tx_ok fun x hx => lts_ok (hn.con.app hm).nf x (h3.subset hx)⟩
end NL

/-! < of data; sorted of data, by an own key too. -/
namespace NL
open PySem PySem.Spec L2
open PyProof.Rows hiding St
/-! ### the order of data -/
def py (d : D) : PyData := toPy 20 d
def dlt (d e : D) : Bool := PySem.W.dataLt (py d) (py e)
def dle (d e : D) : Bool := !dlt e d
def lik (d e : D) : Prop := PySem.W.alike (py d) (py e) = true
def sorD (xs : List D) : List D := xs.mergeSort dle
/-- what can be sorted -/
def Srt1 (xs : List D) : Prop := (∀ x ∈ xs, nb 20 x = true) ∧ (∀ x ∈ xs, ∀ y ∈ xs, lik x y) ∧ PySem.W.Sortable (xs.map py)
section
variable {X : Cx}
theorem op_ltD (hu : X.A.units + 64 < cLine) : OpR X (compareOp .Lt) (fun x y H Q => ∃ d e, Dp X.K H x d ∧ Dp X.K H y e ∧ PySem.W.alike d e = true ∧ d ≠ .none ∧ d.depth ≤ 40 ∧ Q (.bl (PySem.W.dataLt d e)) H) := by
  intro pins s σ H x y v u Q I rx ry h
  obtain ⟨d, e, hd, he, ha, hn, hz, q⟩ := h
  obtain ⟨as, r1⟩ := Dp.reads I d x v hd rx
  obtain ⟨bs, r2⟩ := Dp.reads I e y u he ry
  exact PySem.W.rcLt_alike d e X.A s v u as bs r1 r2 ha hn (by omega) X.prog X.w _ _ ⟨.bl _, H, I, rfl, q⟩
theorem py_depth {d : D} (h : nb 20 d = true) : (py d).depth ≤ 20 := (nb_shape 20 d h).2
end
variable [KC]
section
variable {X : Cx}
def gLtD : D → D → (D → Prop) → Prop := fun d e Q => (nb 20 d = true ∧ nb 20 e = true) ∧ lik d e ∧ isN d = false ∧ Q (.bl (dlt d e))
theorem py_non {d : D} (h : nb 20 d = true) (n : isN d = false) : py d ≠ .none := by
  cases d <;> simp_all [nb, isN, py, toPy]
theorem dLtD {k : Nat} (hr : Room k X.A) (hK : X.K = KC.K := by rfl) : OpD X (compareOp .Lt) gLtD := by
  refine ⟨_, op_ltD hr.units, fun d e Q h H S u v Q' sh hd he k => ?_⟩
  obtain ⟨⟨n1, n2⟩, h1, h2, q⟩ := h
  exact ⟨_, _, nb_dp 20 _ u n1 (hd.full sh), nb_dp 20 _ v n2 (he.full sh), h1, py_non n1 h2, Nat.le_trans (py_depth n1) (by decide), k _ _ H S q (.refl sh) .b⟩
/-! ### sorted(xs) -/
omit [KC] in
theorem dpAll_each {pins : List (Addr × Obj)} {σ : L2.St} {H : Hp} {s : Shared} (I : Inv X pins σ H s) : ∀ (ds : List D) (vs : List V) (us : List Value), (∀ d ∈ ds, nb 20 d = true) → (∀ (i : Nat) (d : D) (v : V), ds[i]? = some d → vs[i]? = some v → Dp X.K H v (py d)) → Vals vs us → ds.length = vs.length →
    PySem.W.EachIs (fun u d => ∃ as, Reads s.heap u (py d) as) us ds
  | [], [], us, _, _, r, _ => by cases r; exact .nil
  | [], _ :: _, _, _, _, _, e => by simp at e
  | _ :: _, [], _, _, _, _, e => by simp at e
  | d :: ds, v :: vs, _, hn, hd, .cons r t, e => by
    obtain ⟨as, z⟩ := Dp.reads I (py d) v _ (hd 0 d v rfl rfl) r
    exact .cons ⟨as, z⟩ (dpAll_each I ds vs _ (fun d m => hn d (by simp [m])) (fun i d v h1 h2 => hd (i + 1) d v (by simpa using h1) (by simpa using h2)) t (by simpa using e))
omit [KC] in
/-- the values V of an arrangement -/
theorem each_back : ∀ {R : Value → (V × D) → Prop} {us : List Value} {ps : List (V × D)}, PySem.W.EachIs R us ps → (∀ u p, R u p → RelV p.1 u) → Vals (ps.map (·.1)) us
  | _, _, _, .nil, _ => .nil
  | _, _, _, .cons h t, f => .cons (f _ _ h) (each_back t f)
def rSortedD (K : PySem.W.Frag) : List V → Hp → VK → Prop := fun vs H Q => ∃ (a : Addr) (xs : List V) (ds : List D), vs = [V.ref a] ∧ SqL K H a xs ∧ xs.length = ds.length ∧ Srt1 ds ∧
  (∀ (i : Nat) (d : D) (v : V), ds[i]? = some d → xs[i]? = some v → Dp K H v (py d)) ∧
  ∀ p, H p = none → Q (.ref p) (upd H p (.lst (((xs.zip ds).mergeSort fun a b => dle a.2 b.2).map (·.1))))
omit [KC] in
theorem cr_sortedD {k : Nat} (hr : Room k X.A) : CallR X (.builtin "sorted") (rSortedD X.K) := by
  intro pins s σ H vs us Q I r h
  obtain ⟨a, xs, ds, rfl, hs, hl, ⟨hn, hal, hso⟩, hd, q⟩ := h
  obtain ⟨its, rv, hL, hz⟩ := I.list hs
  rw [Vals.ref1 r]
  have e1 := dpAll_each I ds xs its hn hd rv hl.symm
  have il : its.length = ds.length := by rw [← rv.length]; exact hl
  have e2 : PySem.W.EachIs (fun u (p : V × D) => RelV p.1 u ∧ ∃ as, Reads s.heap u (py p.2) as) its (xs.zip ds) := by
    refine PySem.W.EachIs.of_zip (by simp; omega) fun p hp => ?_
    obtain ⟨i, hi⟩ := List.mem_iff_getElem?.mp hp
    rw [List.getElem?_zip_eq_some] at hi
    obtain ⟨h1, h2⟩ := hi
    rw [List.getElem?_zip_eq_some] at h2
    obtain ⟨u, hu, ru⟩ := rv.get h2.1
    rw [h1] at hu
    cases hu
    exact ⟨ru, e1.zip (p.1, p.2.2) (List.mem_iff_getElem?.mpr ⟨i, by rw [List.getElem?_zip_eq_some]; exact ⟨h1, h2.2⟩⟩)⟩
  have em : (xs.zip ds).map (fun p => py p.2) = ds.map py := by
    rw [show (fun p : V × D => py p.2) = py ∘ Prod.snd from rfl, ← List.map_map, List.map_snd_zip (by omega)]
  have hm : ∀ p ∈ xs.zip ds, nb 20 p.2 = true := fun p hp => hn _ (List.of_mem_zip (a := p.1) (b := p.2) hp).2
  refine PySem.W.sorted_data (bs := xs.zip ds) (enc := fun p => py p.2) hL.isList e2 (e2.mono fun _ _ z => z.2) ?_ (by rw [em]; exact hso) (by simp; omega) (fun p hp => ?_) fun out ho h1 => ?_
  · rw [em]
    intro x hx y hy
    obtain ⟨x, mx, rfl⟩ := List.mem_map.mp hx
    obtain ⟨y, my, rfl⟩ := List.mem_map.mp hy
    exact hal x mx y my
  · have := py_depth (hm p hp)
    have := hr.units
    omega
  · have hv := each_back h1 fun _ _ z => z.1
    have es : PySem.W.dataLe false (fun p : V × D => py p.2) = fun a b => dle a.2 b.2 := rfl
    rw [es] at hv
    obtain ⟨ep, he'⟩ := PyProof.Rows.sortedAll_at s.heap its (List.toArray out)
    have hlen : ((((xs.zip ds).mergeSort fun a b => dle a.2 b.2).map (·.1))).length ≤ sizeLine := by simp; omega
    exact ⟨.ref _, upd H (s.heap.objs.size + 1) (.lst (((xs.zip ds).mergeSort fun a b => dle a.2 b.2).map (·.1))), I.laid (t' := s.toks) (fun _ _ => PyProof.Rows.sortedAll_old) (Nat.le_succ _) ⟨hlen, out, ep, hv, he'⟩, rfl, q _ (I.hok.fresh (Nat.le_succ _))⟩
def gSorted : List D → (List D → Prop) → Prop
  | [.lst xs], Q => Srt1 xs ∧ Q (sorD xs)
  | _, _ => False
omit [KC] in
theorem zip_sort (xs : List V) (ds : List D) (h : xs.length = ds.length) : ((xs.zip ds).mergeSort fun a b => dle a.2 b.2).map (·.2) = sorD ds := by
  unfold sorD
  rw [PySem.W.sort_maps (s := dle) (fun p : V × D => p.2) fun _ _ _ _ => rfl, List.map_snd_zip (by omega)]
theorem dats_perm {S : Hp} : ∀ {ps qs : List (V × D)}, ps.Perm qs → Dats S (qs.map (·.2)) (qs.map (·.1)) → Dats S (ps.map (·.2)) (ps.map (·.1)) := by
  have all : ∀ (qs : List (V × D)), Dats S (qs.map (·.2)) (qs.map (·.1)) ↔ ∀ p ∈ qs, Dat S p.2 p.1 := fun qs => by
    induction qs with
    | nil => simp; exact .nil
    | cons p qs ih =>
      constructor
      · intro h
        simp only [List.map_cons] at h
        unfold Dats at h
        obtain ⟨v, r, e, h1, h2⟩ := h
        cases e
        intro q hq
        rcases List.mem_cons.mp hq with z | z
        · rw [z]; exact h1
        · exact ih.mp h2 q z
      · intro h
        exact Dats.cons (h p (by simp)) (ih.mpr fun q hq => h q (by simp [hq]))
  intro ps qs hp h
  rw [all] at h ⊢
  exact fun p m => h p (hp.mem_iff.mp m)
theorem cSorted {k : Nat} (hr : Room k X.A) (hK : X.K = KC.K := by rfl) : CalF X (.builtin "sorted") gSorted := by
  refine ⟨_, cr_sortedD hr, fun ds Q h H S vs Q' sh hd k => ?_⟩
  unfold gSorted at h
  split at h
  · rename_i xs
    obtain ⟨hx, q⟩ := h
    obtain ⟨v, rfl, hz⟩ := hd.one
    obtain ⟨a, ws, rfl, r, z⟩ := hz
    refine ⟨a, ws, xs, rfl, .of r, z.len, hx, fun i d v h1 h2 => ?_, fun p hp => ?_⟩
    · obtain ⟨y, hy, hd⟩ := z.get h1
      rw [h2] at hy
      cases hy
      exact nb_dp 20 d v (hx.1 d (List.mem_of_getElem? h1)) (Dat.mono sh _ _ hd)
    · refine k (sorD xs) _ p q hp ?_
      rw [← zip_sort ws xs z.len]
      refine dats_perm (List.mergeSort_perm _ _) ?_
      have l := z.len
      rw [List.map_snd_zip (by omega), List.map_fst_zip (by omega)]
      exact z
  · exact h.elim
/-! ### a text in a list or tuple of texts -/
def strD : D → Bool
  | .str _ => true
  | _ => false
def hasS (s : Str) (xs : List D) : Bool := xs.any fun d => match d with
  | .str t => decide (t = s)
  | _ => false
theorem inV_str {S : Hp} {s : Str} : ∀ {xs : List D} {vs : List V}, Dats S xs vs → xs.all strD = true → vs.all flatV = true ∧ inV (.str s) vs = hasS s xs
  | [], vs, h, _ => by unfold Dats at h; subst h; exact ⟨rfl, rfl⟩
  | x :: xs, vs, h, f => by
    unfold Dats at h
    obtain ⟨v, r, rfl, h1, h2⟩ := h
    rw [List.all_cons, Bool.and_eq_true] at f
    obtain ⟨i1, i2⟩ := inV_str (s := s) h2 f.2
    cases x with
    | str t =>
      unfold Dat at h1
      subst h1
      refine ⟨by rw [List.all_cons, i1]; rfl, ?_⟩
      unfold inV hasS at i2 ⊢
      rw [List.any_cons, List.any_cons, i2]
      congr 1
    | _ => exact absurd (show false = true from f.1) (by decide)
def gInT (neg : Bool) : D → D → (D → Prop) → Prop
  | .str s, .lst xs, Q => xs.all strD = true ∧ Q (.bl (neg ^^ hasS s xs))
  | .str s, .tup xs, Q => xs.all strD = true ∧ Q (.bl (neg ^^ hasS s xs))
  | _, _, _ => False
theorem dInT (hK : X.K = KC.K := by rfl) : OpD X (compareOp .In) (gInT false) := by
  refine ⟨_, op_in_seq, fun d e Q h H S u v Q' sh hd he k => ?_⟩
  unfold gInT at h
  split at h
  · obtain ⟨f, q⟩ := h
    cases hd.s
    obtain ⟨a, ws, rfl, r, z⟩ := he
    obtain ⟨i1, i2⟩ := inV_str z f
    exact ⟨a, ws, rfl, .inl (.of r), rfl, i1, by rw [i2]; simpa using k _ _ H S q (.refl sh) .b⟩
  · obtain ⟨f, q⟩ := h
    cases hd.s
    simp only [BDat, Dat] at he
    obtain ⟨a, ws, rfl, r, z⟩ := he
    obtain ⟨i1, i2⟩ := inV_str z f
    exact ⟨a, ws, rfl, .inr (.of (sh _ _ r)), rfl, i1, by rw [i2]; simpa using k _ _ H S q (.refl sh) .b⟩
  · exact h.elim
theorem dNotInT (hK : X.K = KC.K := by rfl) : OpD X (compareOp .NotIn) (gInT true) := by
  refine ⟨_, op_notIn_seq, fun d e Q h H S u v Q' sh hd he k => ?_⟩
  unfold gInT at h
  split at h
  · obtain ⟨f, q⟩ := h
    cases hd.s
    obtain ⟨a, ws, rfl, r, z⟩ := he
    obtain ⟨i1, i2⟩ := inV_str z f
    exact ⟨a, ws, rfl, .inl (.of r), rfl, i1, by rw [i2]; simpa using k _ _ H S q (.refl sh) .b⟩
  · obtain ⟨f, q⟩ := h
    cases hd.s
    simp only [BDat, Dat] at he
    obtain ⟨a, ws, rfl, r, z⟩ := he
    obtain ⟨i1, i2⟩ := inV_str z f
    exact ⟨a, ws, rfl, .inr (.of (sh _ _ r)), rfl, i1, by rw [i2]; simpa using k _ _ H S q (.refl sh) .b⟩
  · exact h.elim
/-! ### t + u, tuples, none of them empty -/
def gAddT : D → D → (D → Prop) → Prop
  | .tup xs, .tup ys, Q => (xs ≠ [] ∧ ys ≠ [] ∧ xs.length + ys.length ≤ sizeLine) ∧ Q (.tup (xs ++ ys))
  | _, _, _ => False
theorem dCatT (hK : X.K = KC.K := by rfl) : OpD X (binaryOp .Add) gAddT := by
  refine ⟨_, op_catT, fun d e Q h H S u v Q' sh hd he k => ?_⟩
  unfold gAddT at h
  split at h
  · obtain ⟨⟨n1, n2, hl⟩, q⟩ := h
    simp only [BDat, Dat] at hd he
    obtain ⟨a, vs, rfl, r1, z1⟩ := hd
    obtain ⟨b, ws, rfl, r2, z2⟩ := he
    have l1 := z1.len
    have l2 := z2.len
    refine ⟨a, b, vs, ws, rfl, rfl, .of (sh _ _ r1), .of (sh _ _ r2), fun e => n1 (List.eq_nil_of_length_eq_zero (by rw [← l1, e]; rfl)), by omega, fun e => absurd (List.eq_nil_of_length_eq_zero (by rw [← l2, e]; rfl)) n2, fun _ p hp => ?_⟩
    obtain ⟨g, y⟩ := lay_tup sh hp (z1.app z2)
    exact k _ _ _ _ q g y
  · exact h.elim
/-! ### a new list made while a slot's own list is read as shared -/
theorem Rep.frzAt {F : Fr} {ρ : Ev} {σ : L2.St} {H S : Hp} {i : Nat} {c : Cn} {p : Addr} {o : HO} (r : Rep F ρ σ H S) (h : ρ[i]? = some (.own false c)) (e1 : σ[i]? = some (some (.ref p))) (e2 : S p = none) (e3 : H p = some o) (e4 : CnOk S c o) (h0 : F.H0 p = none) :
    Rep F (ρ.set i (.fz c.d)) σ H (upd S p o) := by
  have hl : i < ρ.length := (List.getElem?_eq_some_iff.mp h).1
  have ss : Same S (upd S p o) := same_upd e2
  refine ⟨⟨r.fg.hh, r.fg.al, r.fg.ss.trans ss, same_upd2 r.fg.sh e3, fun a ha => ?_⟩, by simp [r.len], fun j sl e => ?_, fun j k m1 m2 c1 c2 n q1 q2 => ?_⟩
  · rw [upd_ne (fun z => ha (by rw [z]; exact h0))]
    exact r.fg.nw a ha
  · by_cases z : i = j
    · subst z
      rw [List.getElem?_set_self hl] at e
      cases e
      exact ⟨.ref p, e1, CnOk.dat upd_same (e4.mono ss)⟩
    · rw [List.getElem?_set_ne z] at e
      have q := r.at' j sl e
      cases sl with
      | un => trivial
      | fz d =>
        obtain ⟨v, f1, f2⟩ := q
        exact ⟨v, f1, Dat.mono ss d v f2⟩
      | own m3 c3 =>
        obtain ⟨p3, o3, f1, f2, f3, f4, f5⟩ := q
        refine ⟨p3, o3, f1, ?_, f3, f4.mono ss, f5⟩
        rw [upd_ne (fun z3 => r.dist i j false m3 c c3 z h e (by rw [e1, f1, z3]))]
        exact f2
  · have conv : ∀ (l : Nat) (m4 : Bool) (c4 : Cn), (ρ.set i (.fz c.d))[l]? = some (.own m4 c4) → ρ[l]? = some (.own m4 c4) := fun l m4 c4 q => by
      by_cases z : i = l
      · subst z
        rw [List.getElem?_set_self hl] at q
        cases q
      · rw [List.getElem?_set_ne z] at q
        exact q
    exact r.dist j k _ _ _ _ n (conv _ _ _ q1) (conv _ _ _ q2)
def wThaw (i : Nat) (wl : WL) : WL := fun x ρ Q => match ρ[i]? with
  | some (.own false c) => wl x (ρ.set i (.fz c.d)) fun xs => nls xs = true ∧ Q xs
  | some (.fz _) => wl x ρ Q
  | _ => False
theorem df_thaw {E : XK} {e : Expr} {wl : WL} (i : Nat) (h : DF X E e wl) : DF X E e (wThaw i wl) := by
  obtain ⟨t, p, s⟩ := h.ex
  refine ⟨t, p, fun x ρ Q hw F σ H S Q' rp ex k => ?_⟩
  unfold wThaw at hw
  split at hw
  · rename_i c hi
    obtain ⟨p, o, e1, e2, e3, e4, _, e6⟩ := rp.own hi
    have nt : ∀ xs, o ≠ .tup xs := fun xs z => by
      subst z
      cases c with
      | lst ys => obtain ⟨vs, z, _⟩ := e4; cases z
      | dct ks ys => obtain ⟨vs, z, _⟩ := e4; cases z
    have eP : upd S p o = plusS H S [.ref p] := by
      funext a
      unfold plusS upd
      by_cases z : a = p
      · subst z
        rw [if_pos rfl, if_pos ⟨e2, by simp [tops], o, e3, nt⟩, e3]
      · rw [if_neg z, if_neg (fun w => by have := w.2.1; simp [tops] at this; exact z this.symm)]
    have r2 := rp.frzAt hi e1 e2 e3 e4 (e6 rfl)
    rw [eP] at r2
    have x2 : ExOk X.mg E x H (plusS H S [.ref p]) := fun n C H' S' a b g => ex n C H' _ a b (minus_grow rp.sh g)
    refine s x _ _ hw F σ H _ _ r2 x2 fun xs q vs H' S' hq g h0 h1 h2 h3 => ?_
    refine k xs q vs H' (minusS H S S' [.ref p]) hq.2 (minus_grow rp.sh g) h0 ?_ h2 (minus_dats g xs vs hq.1 h3)
    unfold minusS
    split
    · rfl
    · exact h1
  · exact s x ρ Q hw F σ H S Q' rp ex k
  · exact hw.elim
/-! ### max(xs), min(xs) of whole numbers -/
def gMaxL : List D → (D → Prop) → Prop
  | [.lst xs], Q => ∃ ns : List Int, xs = ns.map D.int ∧ 0 < ns.length ∧ ∀ m, m ∈ ns → (∀ y ∈ ns, y ≤ m) → Q (.int m)
  | _, _ => False
theorem cMaxL (hc : X.calm = true) (hK : X.K = KC.K := by rfl) : CalD X (.builtin "max") gMaxL := by
  refine ⟨_, cr_max hc, fun ds Q h H S vs Q' sh hd k => ?_⟩
  unfold gMaxL at h
  split at h
  · obtain ⟨ns, rfl, hl, q⟩ := h
    obtain ⟨v, rfl, hz⟩ := hd.one
    obtain ⟨a, ws, rfl, r, z⟩ := hz
    have := z.ofInts
    subst this
    exact ⟨a, ns, rfl, .of r, hl, fun m h1 h2 => k _ _ H S (q m h1 h2) (.refl sh) .i⟩
  · exact h.elim
end
end NL

/-! Moves. -/
namespace NL
open PySem PySem.Spec L2
open PyProof.Rows hiding St
/-- a cord of some nails -/
def On (l : List Nat) (c : List Pc) : Prop := ∀ p ∈ c, ∃ y ∈ l, p.1 = tx [y]
theorem on_app {l : List Nat} {a b : List Pc} (h : On l a) (g : On l b) : On l (a ++ b) := fun p hp => (List.mem_append.mp hp).elim (h p) (g p)
theorem on_con {l : List Nat} {a : List Pc} (h : On l a) : On l (con a) := fun p hp => by
  obtain ⟨q, hq, rfl⟩ := List.mem_map.mp hp
  exact h q (List.mem_reverse.mp hq)
theorem bd_app {b : Int} {a c : List Pc} (h : ∀ p ∈ a, -b ≤ p.2 ∧ p.2 ≤ b) (g : ∀ p ∈ c, -b ≤ p.2 ∧ p.2 ≤ b) : ∀ p ∈ a ++ c, -b ≤ p.2 ∧ p.2 ≤ b := fun p hp => (List.mem_append.mp hp).elim (h p) (g p)
theorem bd_con {b : Int} {a : List Pc} (h : ∀ p ∈ a, -b ≤ p.2 ∧ p.2 ≤ b) : ∀ p ∈ con a, -b ≤ p.2 ∧ p.2 ≤ b := fun p hp => by
  obtain ⟨q, hq, rfl⟩ := List.mem_map.mp hp
  have := h q (List.mem_reverse.mp hq)
  exact ⟨by show -b ≤ -q.2; omega, by show -q.2 ≤ b; omega⟩
def widP (n : Str) (p : Pc) : Int := if p.1 = n then 2 * (if p.2 < 0 then -p.2 else p.2) else 1
def wid (n : Str) (c : List Pc) : Int := (c.map (widP n)).sum
inductive Mv where
  | turn (a : Nat) | change (a b : Nat) | slide (a b : Nat) (k : Int)
def dMv : Mv → D
  | .turn a => .tup [.str "turn", .str (tx [a])]
  | .change a b => .tup [.str "change", .str (tx [a]), .str (tx [b])]
  | .slide a b k => .tup [.str "slide", .str (tx [a]), .str (tx [b]), .int k]
def slP (a b : Nat) (k : Int) (p : Pc) : List Pc := if p.1 = tx [a] then (if p.2 < 0 then (List.replicate (-p.2).toNat [(tx [b], -k), (tx [a], -1)]).flatten else (List.replicate p.2.toNat [(tx [a], 1), (tx [b], k)]).flatten) else [p]
/-- what a move makes of a cord, nothing put together -/
def mvs : Mv → List Pc → List Pc
  | .turn a, c => c.map fun p => if p.1 = tx [a] then (p.1, -p.2) else p
  | .change a b, c => c.map fun p => (if p.1 = tx [a] then tx [b] else if p.1 = tx [b] then tx [a] else p.1, p.2)
  | .slide a b k, c => (c.map (slP a b k)).flatten
def MvOk : Mv → Prop
  | .turn a => 97 ≤ a ∧ a ≤ 122
  | .change a b => 97 ≤ a ∧ a ≤ 122 ∧ 97 ≤ b ∧ b ≤ 122 ∧ a ≠ b
  | .slide a b k => 97 ≤ a ∧ a ≤ 122 ∧ 97 ≤ b ∧ b ≤ 122 ∧ a ≠ b ∧ -2 ≤ k ∧ k ≤ 2
theorem nail_mk {a : Nat} (h : 97 ≤ a) (g : a ≤ 122) : isNail (tx [a]) := ⟨a, rfl, h, g⟩
theorem mvs_nl {m : Mv} {c : List Pc} (h : MvOk m) (g : Nl c) : Nl (mvs m c) := fun p hp => by
  cases m with
  | turn a =>
    obtain ⟨q, hq, rfl⟩ := List.mem_map.mp hp
    split <;> exact g q hq
  | change a b =>
    obtain ⟨q, hq, rfl⟩ := List.mem_map.mp hp
    simp only
    split
    · exact nail_mk h.2.2.1 h.2.2.2.1
    · split
      · exact nail_mk h.1 h.2.1
      · exact g q hq
  | slide a b k =>
    obtain ⟨l, hl, hp⟩ := List.mem_flatten.mp hp
    obtain ⟨q, hq, rfl⟩ := List.mem_map.mp hl
    unfold slP at hp
    split at hp
    · split at hp
      · have := rep_mem hp
        simp only [List.mem_cons, List.not_mem_nil, or_false] at this
        rcases this with rfl | rfl
        · exact nail_mk h.2.2.1 h.2.2.2.1
        · exact nail_mk h.1 h.2.1
      · have := rep_mem hp
        simp only [List.mem_cons, List.not_mem_nil, or_false] at this
        rcases this with rfl | rfl
        · exact nail_mk h.1 h.2.1
        · exact nail_mk h.2.2.1 h.2.2.2.1
    · rw [List.mem_singleton] at hp
      rw [hp]
      exact g q hq
theorem slP_len (a b : Nat) (k : Int) (p : Pc) : ((slP a b k p).length : Int) = widP (tx [a]) p := by
  unfold slP widP
  split
  · split
    · rw [rep_len]
      simp only [List.length_cons, List.length_nil]
      omega
    · rw [rep_len]
      simp only [List.length_cons, List.length_nil]
      omega
  · rfl
theorem mvs_len (a b : Nat) (k : Int) : ∀ c : List Pc, ((mvs (.slide a b k) c).length : Int) = wid (tx [a]) c
  | [] => rfl
  | p :: c => by
    have ih := mvs_len a b k c
    have e := slP_len a b k p
    simp only [mvs, wid, List.map_cons, List.flatten_cons, List.length_append, List.sum_cons] at ih ⊢
    omega
theorem widP_nn (n : Str) (p : Pc) : 0 ≤ widP n p := by
  unfold widP
  split
  · split <;> omega
  · omega
theorem slP_zero (a b : Nat) (p : Pc) (w : List Pc) (hw : Red w) : act (slP a b 0 p) w = act [p] w := by
  have one : ∀ (m : Nat) (w : List Pc), Red w → act (List.replicate m [((tx [a] : Str), (1 : Int)), (tx [b], 0)]).flatten w = ps (tx [a], (m : Int)) w := fun m => by
    induction m with
    | zero => intro w _; show w = _; rw [show ((0 : Nat) : Int) = 0 by rfl, ps_zero]
    | succ m ih =>
      intro w hw
      rw [List.replicate_succ, List.flatten_cons, act_app, ih w hw]
      show ps (tx [a], 1) (ps (tx [b], 0) (ps (tx [a], (m : Int)) w)) = _
      rw [ps_zero, ps_ps hw]
      congr 2
      omega
  have two : ∀ (m : Nat) (w : List Pc), Red w → act (List.replicate m [((tx [b] : Str), (-0 : Int)), (tx [a], -1)]).flatten w = ps (tx [a], -(m : Int)) w := fun m => by
    induction m with
    | zero => intro w _; show w = _; rw [show -((0 : Nat) : Int) = 0 by rfl, ps_zero]
    | succ m ih =>
      intro w hw
      rw [List.replicate_succ, List.flatten_cons, act_app, ih w hw]
      show ps (tx [b], -0) (ps (tx [a], -1) (ps (tx [a], -(m : Int)) w)) = _
      rw [show (-0 : Int) = 0 by rfl, ps_zero, ps_ps hw]
      congr 2
      omega
  unfold slP
  split
  · rename_i h
    have ep : p = (tx [a], p.2) := Prod.ext h rfl
    split
    · rw [two _ _ hw]
      show _ = ps p w
      rw [ep]
      congr 2
      simp only
      omega
    · rw [one _ _ hw]
      show _ = ps p w
      rw [ep]
      congr 2
      simp only
      omega
  · rfl
theorem slide_zero (a b : Nat) : ∀ c : List Pc, Eqv (mvs (.slide a b 0) c) c
  | [] => .refl _
  | p :: c => by
    have ih := slide_zero a b c
    have : Eqv (slP a b 0 p ++ mvs (.slide a b 0) c) ([p] ++ c) := Eqv.app (fun w hw => slP_zero a b p w hw) ih
    exact this
def mvN (r : List Pc) (m : Mv) : List Pc := nf (mvs m r)
/-- the moves can be done one after the other -/
def Fit : List Pc → List Mv → Prop
  | _, [] => True
  | r, m :: ms => (MvOk m ∧ r.length ≤ 100000 ∧ Nl r ∧ Tb r ∧ ∀ a b k, m = .slide a b k → wid (tx [a]) r ≤ 4000) ∧ Fit (mvN r m) ms
theorem Fit.ok : ∀ {ms : List Mv} {r : List Pc}, Fit r ms → ∀ m ∈ ms, MvOk m
  | [], _, _ => fun _ h => by cases h
  | m :: ms, r, h => fun m' h' => by
    rcases List.mem_cons.mp h' with z | z
    · rw [z]; exact h.1.1
    · exact Fit.ok h.2 m' z
theorem Fit.snoc : ∀ {ms : List Mv} {r : List Pc} {m : Mv}, Fit r ms → Fit (ms.foldl mvN r) [m] → Fit r (ms ++ [m])
  | [], _, _, _, g => g
  | _ :: _, _, _, h, g => ⟨h.1, Fit.snoc h.2 g⟩
theorem filter_len {l : List Nat} {y : Nat} (hy : y ∈ l) (hn : l.Nodup) : (l.filter fun z => decide (z ≠ y)).length = l.length - 1 := by
  induction l with
  | nil => cases hy
  | cons z l ih =>
    rw [List.nodup_cons] at hn
    rw [List.filter_cons]
    by_cases h : z = y
    · subst h
      have : l.filter (fun w => decide (w ≠ z)) = l := List.filter_eq_self.mpr fun w hw => decide_eq_true fun e => hn.1 (e ▸ hw)
      rw [if_neg (by simp), this]
      simp
    · rw [if_pos (by simpa using h), List.length_cons, List.length_cons, ih ((List.mem_cons.mp hy).resolve_left fun e => h e.symm) hn.2]
      have : l ≠ [] := fun e => by
        rw [e] at hy
        simp at hy
        exact h hy.symm
      have := List.length_pos_iff.mpr this
      omega
/-! how great the turns grow -/
def tot (c : List Pc) : Nat := (c.map fun p => p.2.natAbs).sum
theorem tot_cons (p : Pc) (c : List Pc) : tot (p :: c) = p.2.natAbs + tot c := by simp [tot]
theorem tot_app (a b : List Pc) : tot (a ++ b) = tot a + tot b := by simp [tot]
theorem tot_mem : ∀ {c : List Pc} {p : Pc}, p ∈ c → p.2.natAbs ≤ tot c
  | q :: c, p, h => by
    rw [tot_cons]
    rcases List.mem_cons.mp h with e | e
    · rw [e]; omega
    · have := tot_mem e; omega
theorem tot_ps (p : Pc) (w : List Pc) : tot (ps p w) ≤ p.2.natAbs + tot w := by
  unfold ps
  split
  · omega
  · cases w with
    | nil => simp [tot]
    | cons l r =>
      simp only
      split
      · split
        · rw [tot_cons]; omega
        · rw [tot_cons, tot_cons]
          simp only
          omega
      · rw [tot_cons]; omega
theorem tot_nf : ∀ c : List Pc, tot (nf c) ≤ tot c
  | [] => Nat.le_refl _
  | p :: c => by
    have h := tot_nf c
    have g := tot_ps p (nf c)
    rw [tot_cons]
    show tot (ps p (nf c)) ≤ _
    omega
theorem tot_rep (m : Nat) (p q : Pc) : tot (List.replicate m [p, q]).flatten = m * (p.2.natAbs + q.2.natAbs) := by
  induction m with
  | zero => simp [tot]
  | succ m ih =>
    rw [List.replicate_succ, List.flatten_cons, tot_app, ih, Nat.succ_mul]
    simp [tot]
    omega
theorem tot_mvs {m : Mv} (h : MvOk m) : ∀ c : List Pc, tot (mvs m c) ≤ 3 * tot c
  | [] => by cases m <;> simp [mvs, tot]
  | p :: c => by
    have ih := tot_mvs h c
    rw [tot_cons]
    cases m with
    | turn a =>
      have : tot (mvs (.turn a) (p :: c)) = (if p.1 = tx [a] then (p.1, -p.2) else p).2.natAbs + tot (mvs (.turn a) c) := by simp [mvs, tot]
      rw [this]
      split
      · simp only [Int.natAbs_neg]; omega
      · omega
    | change a b =>
      have : tot (mvs (.change a b) (p :: c)) = p.2.natAbs + tot (mvs (.change a b) c) := by simp [mvs, tot]
      omega
    | slide a b k =>
      have : tot (mvs (.slide a b k) (p :: c)) = tot (slP a b k p) + tot (mvs (.slide a b k) c) := by
        rw [← tot_app]; rfl
      have hk := h.2.2.2.2.2
      have key : tot (slP a b k p) ≤ 3 * p.2.natAbs := by
        unfold slP
        split
        · split
          · rw [tot_rep]
            simp only
            have e1 : (-k).natAbs + (-1 : Int).natAbs ≤ 3 := by omega
            have e2 : (-p.2).toNat ≤ p.2.natAbs := by omega
            calc _ ≤ p.2.natAbs * 3 := Nat.mul_le_mul e2 e1
              _ = _ := by omega
          · rw [tot_rep]
            simp only
            have e1 : (1 : Int).natAbs + k.natAbs ≤ 3 := by omega
            have e2 : p.2.toNat ≤ p.2.natAbs := by omega
            calc _ ≤ p.2.natAbs * 3 := Nat.mul_le_mul e2 e1
              _ = _ := by omega
        · simp [tot]; omega
      omega
theorem tot_mvN {m : Mv} (h : MvOk m) (c : List Pc) : tot (mvN c m) ≤ 3 * tot c := Nat.le_trans (tot_nf _) (tot_mvs h c)
theorem tot_tb {c : List Pc} (h : tot c ≤ 2 ^ 120) : Tb c := fun p hp => Nat.le_trans (tot_mem hp) h
theorem tot_of {b : Nat} : ∀ {c : List Pc}, (∀ p ∈ c, p.2.natAbs ≤ b) → tot c ≤ c.length * b
  | [], _ => by simp [tot]
  | p :: c, h => by
    have := tot_of (c := c) fun q hq => h q (by simp [hq])
    have := h p (by simp)
    rw [tot_cons, List.length_cons, Nat.succ_mul]
    omega
theorem mvs_len0 {m : Mv} (hm : ∀ a b k, m ≠ .slide a b k) (c : List Pc) : (mvs m c).length = c.length := by
  cases m with
  | turn a => simp [mvs]
  | change a b => simp [mvs]
  | slide a b k => exact absurd rfl (hm a b k)
theorem On.nl {l : List Nat} {c : List Pc} (h : On l c) (g : Lt l) : Nl c := fun p hp => by
  obtain ⟨y, hy, e⟩ := h p hp
  exact ⟨y, e, g y hy⟩
/-! a move keeps what cords do -/
theorem slW_succ {a b : Nat} {k t : Int} {w : List Pc} (hw : Red w) : act (slP a b k (tx [a], t + 1)) w = act [(tx [a], 1), (tx [b], k)] (act (slP a b k (tx [a], t)) w) := by
  have back : ∀ u, Red u → act [((tx [a] : Str), (1 : Int)), (tx [b], k)] (act [(tx [b], -k), (tx [a], -1)] u) = u := fun u hu => by
    rw [← act_app]
    exact eqv_con [(tx [a], 1), (tx [b], k)] u hu
  unfold slP
  simp only [if_true]
  by_cases h : t < 0
  · have e : (-t).toNat = (-(t + 1)).toNat + 1 := by omega
    rw [if_pos h, e, List.replicate_succ, List.flatten_cons, act_app, back _ (act_red hw)]
    split
    · rfl
    · have e1 : (t + 1).toNat = 0 := by omega
      have e2 : (-(t + 1)).toNat = 0 := by omega
      rw [e1, e2]
      rfl
  · rw [if_neg h, if_neg (by omega), show (t + 1).toNat = t.toNat + 1 by omega, List.replicate_succ, List.flatten_cons, act_app]
theorem slW_add (a b : Nat) (k s t : Int) : Eqv (slP a b k (tx [a], s + t)) (slP a b k (tx [a], s) ++ slP a b k (tx [a], t)) := by
  intro w hw
  rw [act_app]
  refine up_down (p := fun s => act (slP a b k (tx [a], s + t)) w = act (slP a b k (tx [a], s)) (act (slP a b k (tx [a], t)) w)) ?_ (fun s => ?_) s
  · rw [Int.zero_add]
    unfold slP
    simp
    rfl
  · rw [show s + 1 + t = s + t + 1 by omega, slW_succ hw, slW_succ (act_red hw)]
    refine ⟨fun h => by rw [h], fun h => ?_⟩
    have bk : ∀ u, Red u → act (con [((tx [a] : Str), (1 : Int)), (tx [b], k)]) (act [(tx [a], 1), (tx [b], k)] u) = u := fun u hu => by
      rw [← act_app]
      exact eqv_con' [(tx [a], 1), (tx [b], k)] u hu
    have g := congrArg (act (con [((tx [a] : Str), (1 : Int)), (tx [b], k)])) h
    rwa [bk _ (act_red hw), bk _ (act_red (act_red hw))] at g
theorem mvs_app (m : Mv) (a b : List Pc) : mvs m (a ++ b) = mvs m a ++ mvs m b := by
  cases m <;> simp [mvs]
theorem mvs_one (m : Mv) (p : Pc) (c : List Pc) : mvs m (p :: c) = mvs m [p] ++ mvs m c := mvs_app m [p] c
theorem mvs_part (m : Mv) (n : Str) (s t : Int) : Eqv (mvs m [(n, s + t)]) (mvs m [(n, s)] ++ mvs m [(n, t)]) := by
  cases m with
  | turn a =>
    simp only [mvs, List.map_cons, List.map_nil]
    split
    · exact eqv_part (by omega)
    · exact eqv_part rfl
  | change a b =>
    simp only [mvs, List.map_cons, List.map_nil]
    exact eqv_part rfl
  | slide a b k =>
    simp only [mvs, List.map_cons, List.map_nil, List.flatten_cons, List.flatten_nil, List.append_nil]
    by_cases h : n = tx [a]
    · subst h
      exact slW_add a b k s t
    · unfold slP
      simp only [if_neg h]
      exact eqv_part rfl
theorem mvs_zero (m : Mv) (n : Str) : Eqv (mvs m [(n, 0)]) [] := by
  cases m with
  | turn a =>
    simp only [mvs, List.map_cons, List.map_nil]
    split
    · exact eqv_zero.symm
    · exact eqv_zero.symm
  | change a b =>
    simp only [mvs, List.map_cons, List.map_nil]
    exact eqv_zero.symm
  | slide a b k =>
    simp only [mvs, List.map_cons, List.map_nil, List.flatten_cons, List.flatten_nil, List.append_nil]
    unfold slP
    split
    · simp only [Int.lt_irrefl, if_false]
      exact .refl _
    · exact eqv_zero.symm
theorem mvs_ps (m : Mv) (p : Pc) (w : List Pc) : Eqv (mvs m (ps p w)) (mvs m [p] ++ mvs m w) := by
  have hp : p = (p.1, p.2) := rfl
  unfold ps
  split
  · rename_i h
    rw [hp, h]
    exact ((mvs_zero m p.1).app (Eqv.refl (mvs m w))).symm
  · cases w with
    | nil =>
      have : mvs m [] = [] := by cases m <;> rfl
      simp only [this, List.append_nil]
      exact .refl _
    | cons l r =>
      simp only
      split
      · rename_i e
        have el : l = (p.1, l.2) := Prod.ext e rfl
        have key : Eqv (mvs m [(p.1, p.2 + l.2)] ++ mvs m r) (mvs m [p] ++ mvs m (l :: r)) := by
          rw [mvs_one m l r, ← List.append_assoc]
          refine Eqv.app ?_ (.refl _)
          rw [el]
          exact mvs_part m p.1 p.2 l.2
        split
        · rename_i hs
          rw [hs] at key
          exact ((mvs_zero m p.1).symm.app (Eqv.refl (mvs m r))).trans key
        · rw [mvs_one]
          exact key
      · rw [mvs_one m p (l :: r)]
        exact .refl _
theorem mvs_nf (m : Mv) : ∀ c : List Pc, Eqv (mvs m c) (mvs m (nf c))
  | [] => by cases m <;> exact .refl _
  | p :: c => by
    have ih := mvs_nf m c
    have h := mvs_ps m p (nf c)
    rw [mvs_one]
    exact ((Eqv.refl (mvs m [p])).app ih).trans h.symm
theorem mvs_eqv (m : Mv) {c d : List Pc} (h : Eqv c d) : Eqv (mvs m c) (mvs m d) := by
  have := mvs_nf m d
  rw [← h.nf] at this
  exact (mvs_nf m c).trans this.symm
theorem mvN_nf (m : Mv) (c : List Pc) : mvN (nf c) m = nf (mvs m c) := (mvs_nf m c).nf.symm
theorem mvs_con (m : Mv) (c : List Pc) : Eqv (mvs m (con c)) (con (mvs m c)) := by
  have h1 : Eqv (mvs m (con c) ++ mvs m c) [] := by
    rw [← mvs_app]
    have := mvs_eqv m (eqv_con' c)
    have e : mvs m [] = [] := by cases m <;> rfl
    rwa [e] at this
  have h2 : Eqv (mvs m (con c)) (mvs m (con c) ++ (mvs m c ++ con (mvs m c))) := by
    have := (Eqv.refl (mvs m (con c))).app (eqv_con (mvs m c)).symm
    simpa using this
  rw [← List.append_assoc] at h2
  have h3 := h1.app (Eqv.refl (con (mvs m c)))
  exact h2.trans h3
/-- the move that undoes a move -/
def inv : Mv → Mv
  | .slide a b k => .slide a b (-k)
  | m => m
theorem inv_ok {m : Mv} (h : MvOk m) : MvOk (inv m) := by
  cases m with
  | slide a b k => exact ⟨h.1, h.2.1, h.2.2.1, h.2.2.2.1, h.2.2.2.2.1, by have := h.2.2.2.2.2; omega, by have := h.2.2.2.2.2; omega⟩
  | _ => exact h
theorem inv_inv (m : Mv) : inv (inv m) = m := by
  cases m with
  | slide a b k => show Mv.slide a b (- -k) = _; rw [Int.neg_neg]
  | _ => rfl
theorem mvs_rep (m : Mv) (n : Nat) (w : List Pc) : mvs m (List.replicate n w).flatten = (List.replicate n (mvs m w)).flatten := by
  induction n with
  | zero => cases m <;> rfl
  | succ n ih => rw [List.replicate_succ, List.replicate_succ, List.flatten_cons, List.flatten_cons, mvs_app, ih]
theorem rep_eqv {u v : List Pc} (h : Eqv u v) : ∀ n, Eqv (List.replicate n u).flatten (List.replicate n v).flatten
  | 0 => .refl _
  | n + 1 => by
    rw [List.replicate_succ, List.replicate_succ, List.flatten_cons, List.flatten_cons]
    exact h.app (rep_eqv h n)
theorem rep_pc (n : Str) (j : Int) : ∀ m : Nat, Eqv (List.replicate m [((n, j) : Pc)]).flatten [(n, m * j)]
  | 0 => by
    show Eqv [] _
    rw [show ((0 : Nat) : Int) * j = 0 by simp]
    exact eqv_zero
  | m + 1 => by
    rw [List.replicate_succ, List.flatten_cons]
    refine ((Eqv.refl [(n, j)]).app (rep_pc n j m)).trans ?_
    exact (eqv_part (by rw [show ((m + 1 : Nat) : Int) = (m : Int) + 1 by omega, Int.add_mul]; omega)).symm
theorem tx_ne {a b : Nat} (h : a ≠ b) : ¬ tx [a] = tx [b] := fun e => h (by simpa [tx_inj] using e)
theorem inv_one {m : Mv} (h : MvOk m) (p : Pc) : Eqv (mvs (inv m) (mvs m [p])) [p] := by
  cases m with
  | turn a =>
    simp only [inv, mvs, List.map_cons, List.map_nil]
    by_cases e : p.1 = tx [a]
    · simp only [if_pos e, Int.neg_neg]
      exact .refl _
    · simp only [if_neg e]
      exact .refl _
  | change a b =>
    have hn := tx_ne h.2.2.2.2
    simp only [inv, mvs, List.map_cons, List.map_nil]
    by_cases e : p.1 = tx [a]
    · simp only [if_pos e, if_neg (fun z => hn (Eq.symm z)), if_true]
      rw [← e]
      exact .refl _
    · by_cases e' : p.1 = tx [b]
      · simp only [if_neg e, if_pos e', if_true]
        rw [← e']
        exact .refl _
      · simp only [if_neg e, if_neg e']
        exact .refl _
  | slide a b k =>
    have hn := tx_ne h.2.2.2.2.1
    have hn' := tx_ne (Ne.symm h.2.2.2.2.1)
    by_cases e : p.1 = tx [a]
    · have one : Eqv (mvs (.slide a b (-k)) [(tx [a], 1), (tx [b], k)]) [(tx [a], 1)] := by
        have e1 : mvs (.slide a b (-k)) [(tx [a], 1), (tx [b], k)] = [(tx [a], 1), (tx [b], -k), (tx [b], k)] := by
          simp [mvs, slP, hn']
        rw [e1]
        have := (Eqv.refl [((tx [a] : Str), (1 : Int))]).app ((eqv_part (n := tx [b]) (a := -k) (b := k) (t := 0) (by omega)).symm.trans eqv_zero.symm)
        simpa using this
      have two : Eqv (mvs (.slide a b (-k)) [(tx [b], -k), (tx [a], -1)]) [(tx [a], -1)] := by
        have e1 : mvs (.slide a b (-k)) [(tx [b], -k), (tx [a], -1)] = [(tx [b], -k), (tx [b], k), (tx [a], -1)] := by
          simp [mvs, slP, hn']
        rw [e1]
        have := ((eqv_part (n := tx [b]) (a := -k) (b := k) (t := 0) (by omega)).symm.trans eqv_zero.symm).app (Eqv.refl [((tx [a] : Str), (-1 : Int))])
        simpa using this
      have ep : p = (tx [a], p.2) := Prod.ext e rfl
      have em : mvs (.slide a b k) [p] = slP a b k p := by simp [mvs]
      rw [em]
      unfold slP
      rw [if_pos e]
      split
      · show Eqv (mvs (.slide a b (-k)) _) _
        rw [mvs_rep]
        refine (rep_eqv two _).trans ((rep_pc _ _ _).trans ?_)
        rw [ep]
        rw [show (((-p.2).toNat : Nat) : Int) * -1 = p.2 by omega]
        exact .refl _
      · show Eqv (mvs (.slide a b (-k)) _) _
        rw [mvs_rep]
        refine (rep_eqv one _).trans ((rep_pc _ _ _).trans ?_)
        rw [ep]
        rw [show ((p.2.toNat : Nat) : Int) * 1 = p.2 by omega]
        exact .refl _
    · have em : ∀ k, mvs (.slide a b k) [p] = [p] := fun k => by simp [mvs, slP, e]
      rw [em]
      show Eqv (mvs (.slide a b (-k)) [p]) [p]
      rw [em]
      exact .refl _
theorem inv_eqv {m : Mv} (h : MvOk m) : ∀ c : List Pc, Eqv (mvs (inv m) (mvs m c)) c
  | [] => by cases m <;> exact .refl _
  | p :: c => by
    rw [mvs_one m p c, mvs_app]
    exact (inv_one h p).app (inv_eqv h c)
theorem inv_mvN {m : Mv} (h : MvOk m) {r : List Pc} (hr : Red r) : mvN (mvN r m) (inv m) = r := by
  show nf (mvs (inv m) (nf (mvs m r))) = r
  rw [(mvs_eqv (inv m) (eqv_nf (mvs m r)).symm).nf, (inv_eqv h r).nf, red_nf hr]
theorem mvN_red (r : List Pc) (m : Mv) : Red (mvN r m) := nf_red _
theorem fold_red : ∀ (ms : List Mv) {r : List Pc}, Red r → Red (ms.foldl mvN r)
  | [], _, h => h
  | m :: ms, r, _ => fold_red ms (mvN_red r m)
/-- moved there and back -/
theorem fold_back : ∀ (ms : List Mv) {r : List Pc}, (∀ m ∈ ms, MvOk m) → Red r → (ms.reverse.map inv).foldl mvN (ms.foldl mvN r) = r
  | [], r, _, _ => rfl
  | m :: ms, r, h, hr => by
    rw [List.reverse_cons, List.map_append, List.foldl_append, List.foldl_cons, fold_back ms (fun m' h' => h m' (by simp [h'])) (mvN_red r m)]
    exact inv_mvN (h m (by simp)) hr
theorem foldN_app : ∀ (ms : List Mv) (u v : List Pc), ms.foldl mvN (nf (u ++ v)) = nf (ms.foldl mvN (nf u) ++ ms.foldl mvN (nf v))
  | [], u, v => nf_app2 u v
  | m :: ms, u, v => by
    simp only [List.foldl_cons, mvN_nf, mvs_app]
    exact foldN_app ms _ _
theorem foldN_con : ∀ (ms : List Mv) (u : List Pc), ms.foldl mvN (nf (con u)) = con (ms.foldl mvN (nf u))
  | [], u => nf_con_nf u
  | m :: ms, u => by
    simp only [List.foldl_cons, mvN_nf]
    rw [(mvs_con m u).nf]
    exact foldN_con ms _
theorem foldN_inj {ms : List Mv} (h : ∀ m ∈ ms, MvOk m) {u v : List Pc} (e : ms.foldl mvN (nf u) = ms.foldl mvN (nf v)) : nf u = nf v := by
  have h1 := fold_back ms h (nf_red u)
  have h2 := fold_back ms h (nf_red v)
  rw [← h1, e, h2]
end NL

/-! The order of cords; cords led by others: rings. -/
namespace NL
open PySem PySem.Spec L2
open PyProof.Rows hiding St
theorem Br.yes {A B : Prop} {s : Tg A} {t : Tg B} (h : A) : Br true A B s t := h
theorem Br.no {A B : Prop} {s : Tg A} {t : Tg B} (h : B) : Br false A B s t := h
theorem rngD_nat {n : Nat} : (rng 0 1 n).map D.int = (List.range n).map fun i : Nat => D.int i := by simp [rng, Function.comp_def]
/-! ### the order -/
abbrev plt (a b : List Pc) : Bool := PySem.W.DatumOrd.lt (α := List (Str × Int)) a b
theorem ord_tri {α : Type} [DecidableEq α] [PySem.W.DatumOrd α] {a b : α} (h : PySem.W.DatumOrd.lt a b = false) (g : PySem.W.DatumOrd.lt b a = false) : a = b := by
  rw [← PySem.W.DatumOrd.lt_eq] at h g
  have e := PyProof.Rows.lex_total (O := PyProof.Rows.itemOrd) _ _ h g
  apply Decidable.byContradiction
  intro n
  have d : PyData.eqv (PySem.W.Datum.toD a) (PySem.W.Datum.toD b) = false := by rw [PySem.W.Datum.eqv]; simp [n]
  have z := (PySem.W.toks_eqv _ _ (PySem.W.DatumOrd.alike a b)).2 d [] [.inl 0]
  rw [e] at z
  have z1 := PySem.W.lex_pre (PySem.W.keyToks (PySem.W.Datum.toD b)) [] [.inl 0]
  rw [z1, PyProof.Rows.lex_irrefl] at z
  exact absurd z (by decide)
theorem ord_irr {α : Type} [DecidableEq α] [PySem.W.DatumOrd α] (a : α) : PySem.W.DatumOrd.lt a a = false := by
  rw [← PySem.W.DatumOrd.lt_eq]
  exact PySem.W.dataLt_self _
theorem ord_trans {α : Type} [DecidableEq α] [PySem.W.DatumOrd α] {a b c : α} (h : PySem.W.DatumOrd.lt a b = true) (g : PySem.W.DatumOrd.lt b c = true) : PySem.W.DatumOrd.lt a c = true := by
  rw [← PySem.W.DatumOrd.lt_eq] at h g ⊢
  exact PyProof.Rows.lex_trans _ _ _ h g
/-- what is not below b is not below what is below b -/
theorem ord_low {α : Type} [DecidableEq α] [PySem.W.DatumOrd α] {x a b : α} (h : PySem.W.DatumOrd.lt a b = true) (g : PySem.W.DatumOrd.lt x b = false) : PySem.W.DatumOrd.lt x a = false := by
  cases e : PySem.W.DatumOrd.lt x a with
  | false => rfl
  | true => rw [ord_trans e h] at g; exact g
theorem py_dC (c : List Pc) : py (dC c) = PySem.W.Datum.toD (α := List (Str × Int)) c := by
  show PyData.list _ = PyData.list _
  congr 1
  induction c with
  | nil => rfl
  | cons p c ih =>
    show _ :: _ = _ :: _
    congr 1
theorem dlt_dC (a b : List Pc) : dlt (dC a) (dC b) = plt a b := by
  unfold dlt
  rw [py_dC, py_dC]
  exact PySem.W.DatumOrd.lt_eq a b
theorem lik_dC (a b : List Pc) : lik (dC a) (dC b) := by
  unfold lik
  rw [py_dC, py_dC]
  exact PySem.W.DatumOrd.alike a b
/-! ### begun at another piece -/
def Rot (a b : List Pc) : Prop := ∃ x y, a = x ++ y ∧ b = y ++ x
theorem Rot.refl (a : List Pc) : Rot a a := ⟨[], a, rfl, by simp⟩
theorem Rot.symm {a b : List Pc} (h : Rot a b) : Rot b a := by
  obtain ⟨x, y, e, f⟩ := h
  exact ⟨y, x, f, e⟩
theorem Rot.trans {a b c : List Pc} (h : Rot a b) (g : Rot b c) : Rot a c := by
  obtain ⟨x, y, rfl, rfl⟩ := h
  obtain ⟨u, v, e, rfl⟩ := g
  rcases List.append_eq_append_iff.mp e with ⟨w, h1, h2⟩ | ⟨w, h1, h2⟩
  · subst h1 h2
    exact ⟨w, v ++ y, by simp, by simp⟩
  · subst h1 h2
    exact ⟨x ++ u, w, by simp, by simp⟩
theorem Rot.len {a b : List Pc} (h : Rot a b) : b.length = a.length := by
  obtain ⟨x, y, rfl, rfl⟩ := h
  simp [Nat.add_comm]
theorem Rot.mem {a b : List Pc} (h : Rot a b) {p : Pc} (hp : p ∈ b) : p ∈ a := by
  obtain ⟨x, y, rfl, rfl⟩ := h
  simp at hp ⊢
  exact hp.symm
theorem rot_at (a : List Pc) (k : Nat) : Rot a (a.drop k ++ a.take k) := ⟨a.take k, a.drop k, by simp, rfl⟩
theorem Rot.cut {a b : List Pc} (h : Rot a b) : b = a ∨ ∃ k, k < a.length ∧ b = a.drop k ++ a.take k := by
  obtain ⟨x, y, rfl, rfl⟩ := h
  cases y with
  | nil => exact .inl (by simp)
  | cons p y => exact .inr ⟨x.length, by simp, by simp⟩
/-! ### runs with unlike ends -/
theorem red_join : ∀ {a b : List Pc}, Red a → Red b → (∀ p q, a.getLast? = some p → b.head? = some q → p.1 ≠ q.1) → Red (a ++ b)
  | [], _, _, h, _ => h
  | [p], b, h, g, n => Red.mk h (fun q e => n p q rfl e) g
  | p :: q :: r, b, h, g, n => ⟨h.1, h.2.1, red_join (a := q :: r) h.2.2 g fun s t e f => n s t (by rw [List.getLast?_cons_cons]; exact e) f⟩
theorem red_part1 : ∀ {a b : List Pc}, Red (a ++ b) → Red a
  | [], _, _ => trivial
  | [p], b, h => by
    cases b with
    | nil => exact h
    | cons q r => exact h.1
  | p :: q :: a, b, h => ⟨h.1, h.2.1, red_part1 (a := q :: a) h.2.2⟩
theorem red_part2 : ∀ {a b : List Pc}, Red (a ++ b) → Red b
  | [], _, h => h
  | p :: a, b, h => red_part2 (a := a) h.tail
theorem red_meet : ∀ {a b : List Pc} {p q : Pc}, Red (a ++ b) → a.getLast? = some p → b.head? = some q → p.1 ≠ q.1
  | [], _, _, _, _, e, _ => by simp at e
  | [s], b, p, q, h, e, f => by
    cases b with
    | nil => simp at f
    | cons t b =>
      simp at e f
      subst e f
      exact h.2.1
  | s :: t :: a, b, p, q, h, e, f => red_meet (a := t :: a) h.2.2 (by rw [List.getLast?_cons_cons] at e; exact e) f
theorem red_end {a : List Pc} {g g' : Pc} (h : Red (a ++ [g])) (e : g'.1 = g.1) (n : g'.2 ≠ 0) : Red (a ++ [g']) :=
  red_join (red_part1 h) n fun p q h1 h2 => by
    simp at h2
    subst h2
    rw [e]
    exact red_meet h h1 rfl
def Cyc (i : List Pc) : Prop := Red i ∧ (2 ≤ i.length → ∀ p q, i.head? = some p → i.getLast? = some q → p.1 ≠ q.1)
theorem Cyc.rt {a b : List Pc} (c : Cyc a) (h : Rot a b) : Cyc b := by
  obtain ⟨x, y, rfl, rfl⟩ := h
  rcases x with _ | ⟨p, x⟩
  · simpa using c
  rcases y with _ | ⟨q, y⟩
  · simpa using c
  refine ⟨red_join (red_part2 c.1) (red_part1 c.1) fun s t e f => ?_, fun _ s t e f => ?_⟩
  · refine (c.2 (by simp; omega) t s ?_ ?_).symm
    · simpa using f
    · rw [List.getLast?_append, e]; rfl
  · have f' : (p :: x).getLast? = some t := by
      rw [List.getLast?_append] at f
      simpa [List.getLast?_cons] using f
    have e' : (q :: y).head? = some s := by simpa using e
    exact (red_meet c.1 f' e').symm
theorem no_ends {u v m : List Pc} {p q : Pc} (hu : u.head? = some p) (hv : v.head? = some q) (e : p.1 = q.1) : ¬ Cyc (u ++ m ++ con v) := fun c => by
  cases u with
  | nil => simp at hu
  | cons p' u =>
    cases v with
    | nil => simp at hv
    | cons q' v =>
      simp at hu hv
      subst hu hv
      refine c.2 (by simp [con_cons]; omega) p' (q'.1, -q'.2) (by simp) (by rw [con_cons, ← List.append_assoc, List.getLast?_append]; rfl) e
theorem head_app {u : List Pc} {p q : Pc} (e : p.1 = q.1) : ∃ a b : Pc, (u ++ [p]).head? = some a ∧ (u ++ [q]).head? = some b ∧ a.1 = b.1 := by
  cases u with
  | nil => exact ⟨p, q, rfl, rfl, e⟩
  | cons s u => exact ⟨s, s, rfl, rfl, rfl⟩
theorem con_head {u : List Pc} {p : Pc} : (con (u ++ [p])).head? = some (p.1, -p.2) := by simp [con]
theorem conj_rot0 : ∀ (n : Nat) (u i j : List Pc), u.length = n → Red u → Cyc i → Cyc j → nf (u ++ i ++ con u) = j → Rot i j
  | 0, u, i, j, hn, _, hi, _, e => by
    have : u = [] := List.length_eq_zero_iff.mp hn
    subst this
    have e' : nf i = j := by simpa [con] using e
    rw [red_nf hi.1] at e'
    rw [e']
    exact .refl _
  | n + 1, u, i, j, hn, hu, hi, hj, e => by
    rcases List.eq_nil_or_concat u with z | ⟨v, p, z⟩
    · rw [z] at hn; simp at hn
    rw [List.concat_eq_append] at z
    subst z
    have hv : v.length = n := by simpa using hn
    have rv : Red v := red_part1 hu
    have p0 : p.2 ≠ 0 := red_part2 hu
    have ih := fun i' h1 h2 => conj_rot0 n v i' j hv rv h1 hj h2
    have sp : v ++ [p] ++ i ++ con (v ++ [p]) = v ++ ([p] ++ i ++ [(p.1, -p.2)]) ++ con v := by rw [con_app]; simp [con]
    have whole : Red (v ++ [p] ++ i ++ con (v ++ [p])) → i ≠ [] → False := fun r _ => by
      rw [red_nf r] at e
      obtain ⟨a, b, h1, h2, h3⟩ := head_app (u := v) (p := p) (q := p) rfl
      rw [← e] at hj
      exact no_ends h1 h2 h3 hj
    rcases i with _ | ⟨a, i⟩
    · have : nf (v ++ [p] ++ con (v ++ [p])) = j := by simpa using e
      rw [nf_con] at this
      rw [← this]
      exact .refl _
    rcases List.eq_nil_or_concat i with z | ⟨m, b, z⟩
    · subst z
      by_cases ha : a.1 = p.1
      · refine ih [a] hi ?_
        rw [sp] at e
        refine Eq.trans (nf_mid v (con v) ?_) e
        intro w r
        obtain ⟨n1, t1⟩ := p
        obtain ⟨n2, t2⟩ := a
        simp only at ha
        subst ha
        simp only [List.cons_append, List.nil_append, act_cons, act_nil]
        rw [ps_ps r, ps_ps r, show t1 + (t2 + -t1) = t2 by omega]
      · refine (whole ?_ (by simp)).elim
        refine red_join (red_join hu hi.1 fun s t h1 h2 => ?_) (con_red hu) fun s t h1 h2 => ?_
        · simp at h1 h2
          subst h1 h2
          exact fun z => ha z.symm
        · rw [con_head] at h2
          simp at h1 h2
          subst h1 h2
          exact ha
    · rw [List.concat_eq_append] at z
      subst z
      have hab : a.1 ≠ b.1 := hi.2 (by simp) a b rfl (by rw [← List.cons_append, List.getLast?_append]; rfl)
      by_cases ha : a.1 = p.1
      · by_cases hs : p.2 + a.2 = 0
        · have ea : a = (p.1, -p.2) := by
            obtain ⟨n2, t2⟩ := a
            simp at ha hs ⊢
            exact ⟨ha, by omega⟩
          have rt : Rot (a :: (m ++ [b])) (m ++ [b] ++ [a]) := ⟨[a], m ++ [b], rfl, rfl⟩
          refine rt.trans (ih _ (hi.rt rt) ?_)
          rw [sp] at e
          refine Eq.trans (nf_mid v (con v) ?_) e
          rw [ea]
          have : Eqv ([p] ++ [(p.1, -p.2)]) [] := eqv_one p
          have := (this.app (Eqv.refl (m ++ [b] ++ [(p.1, -p.2)]))).symm
          simpa using this
        · exfalso
          have w : Red ((v ++ [(p.1, p.2 + a.2)]) ++ (m ++ [b]) ++ con (v ++ [p])) := by
            refine red_join (red_join (red_end hu rfl hs) hi.1.tail fun s t h1 h2 => ?_) (con_red hu) fun s t h1 h2 => ?_
            · rw [List.getLast?_append] at h1
              simp only [List.getLast?_singleton, Option.some_or, Option.some.injEq] at h1
              subst h1
              simp only
              rw [← ha]
              exact red_meet (a := [a]) hi.1 rfl h2
            · rw [con_head] at h2
              rw [← List.append_assoc, List.getLast?_append] at h1
              simp only [List.getLast?_singleton, Option.some_or, Option.some.injEq] at h1 h2
              subst h1 h2
              simp only
              rw [← ha]
              exact hab.symm
          have e2 : nf (v ++ [p] ++ (a :: (m ++ [b])) ++ con (v ++ [p])) = nf ((v ++ [(p.1, p.2 + a.2)]) ++ (m ++ [b]) ++ con (v ++ [p])) := by
            have q : Eqv ([p] ++ [a]) [(p.1, p.2 + a.2)] := by
              intro w r
              obtain ⟨n1, t1⟩ := p
              obtain ⟨n2, t2⟩ := a
              simp only at ha
              subst ha
              simp only [List.cons_append, List.nil_append, act_cons, act_nil]
              rw [ps_ps r]
            have := nf_mid v (m ++ [b] ++ con (v ++ [p])) q
            simpa using this
          rw [e2, red_nf w] at e
          obtain ⟨c, d, h1, h2, h3⟩ := head_app (u := v) (p := ((p.1, p.2 + a.2) : Pc)) (q := p) rfl
          rw [← e] at hj
          exact no_ends h1 h2 h3 hj
      · by_cases hb : b.1 = p.1
        · by_cases hs : b.2 - p.2 = 0
          · have eb : b = p := by
              obtain ⟨n2, t2⟩ := b
              obtain ⟨n1, t1⟩ := p
              simp at hb hs ⊢
              exact ⟨hb, by omega⟩
            subst eb
            have rt : Rot (a :: (m ++ [b])) ([b] ++ (a :: m)) := ⟨a :: m, [b], by simp, rfl⟩
            refine rt.trans (ih _ (hi.rt rt) ?_)
            rw [sp] at e
            refine Eq.trans (nf_mid v (con v) ?_) e
            have : Eqv ([b] ++ [(b.1, -b.2)]) [] := eqv_one b
            have := ((Eqv.refl ([b] ++ (a :: m))).app this).symm
            simpa using this
          · exfalso
            have hu2 : Red (v ++ [((p.1, -(b.2 - p.2)) : Pc)]) := red_end hu rfl (by show -(b.2 - p.2) ≠ 0; omega)
            have ra : Red (a :: m) := red_part1 (a := a :: m) (b := [b]) (by simpa using hi.1)
            have w : Red ((v ++ [p]) ++ (a :: m) ++ con (v ++ [((p.1, -(b.2 - p.2)) : Pc)])) := by
              refine red_join (red_join hu ra fun s t h1 h2 => ?_) (con_red hu2) fun s t h1 h2 => ?_
              · simp at h1 h2
                subst h1 h2
                exact fun z => ha z.symm
              · rw [con_head] at h2
                simp only [Option.some.injEq] at h2
                subst h2
                simp only
                rw [← hb]
                refine red_meet (a := a :: m) (b := [b]) (by simpa using hi.1) ?_ rfl
                rw [List.getLast?_append] at h1
                simpa [List.getLast?_cons] using h1
            have e2 : nf (v ++ [p] ++ (a :: (m ++ [b])) ++ con (v ++ [p])) = nf ((v ++ [p]) ++ (a :: m) ++ con (v ++ [((p.1, -(b.2 - p.2)) : Pc)])) := by
              have q : Eqv ([b] ++ [(p.1, -p.2)]) [(p.1, b.2 - p.2)] := by
                intro w r
                obtain ⟨n1, t1⟩ := p
                obtain ⟨n2, t2⟩ := b
                simp only at hb
                subst hb
                simp only [List.cons_append, List.nil_append, act_cons, act_nil]
                rw [ps_ps r, show t2 + -t1 = t2 - t1 by omega]
              have := nf_mid (v ++ [p] ++ (a :: m)) (con v) q
              simpa [con, Int.neg_sub] using this
            rw [e2, red_nf w] at e
            obtain ⟨c, d, h1, h2, h3⟩ := head_app (u := v) (p := p) (q := ((p.1, -(b.2 - p.2)) : Pc)) rfl
            rw [← e] at hj
            exact no_ends h1 h2 h3 hj
        · refine (whole ?_ (by simp)).elim
          refine red_join (red_join hu hi.1 fun s t h1 h2 => ?_) (con_red hu) fun s t h1 h2 => ?_
          · simp at h1 h2
            subst h1 h2
            exact fun z => ha z.symm
          · rw [con_head] at h2
            have : s = b := by
              rw [List.getLast?_append, ← List.cons_append, List.getLast?_append] at h1
              simpa using h1.symm
            simp only [Option.some.injEq] at h2
            subst this h2
            exact hb
theorem nf_led (u i : List Pc) : nf (nf u ++ i ++ con (nf u)) = nf (u ++ i ++ con u) :=
  ((((eqv_nf u).symm.app (.refl i))).app (by rw [← nf_con_nf]; exact (eqv_nf (con u)).symm)).nf
/-- b is a led about -/
def Cj (a b : List Pc) : Prop := ∃ u, nf (u ++ a ++ con u) = nf b
theorem conj_rot {i j : List Pc} (hi : Cyc i) (hj : Cyc j) (h : Cj i j) : Rot i j := by
  obtain ⟨u, e⟩ := h
  refine conj_rot0 (nf u).length (nf u) i j rfl (nf_red u) hi hj ?_
  rw [← red_nf hj.1, ← e]
  exact ((((eqv_nf u).symm.app (.refl i))).app (by rw [← nf_con_nf]; exact (eqv_nf (con u)).symm)).nf
theorem Cj.of {a b : List Pc} (h : nf a = nf b) : Cj a b := ⟨[], by simpa [con] using h⟩
theorem Cj.trans {a b c : List Pc} (h : Cj a b) (g : Cj b c) : Cj a c := by
  obtain ⟨u, e⟩ := h
  obtain ⟨v, f⟩ := g
  refine ⟨v ++ u, ?_⟩
  rw [← f]
  have := nf_mid v (con v) (nf_eqv e)
  simpa [con_app] using this
theorem Cj.symm {a b : List Pc} (h : Cj a b) : Cj b a := by
  obtain ⟨u, e⟩ := h
  refine ⟨con u, ?_⟩
  have h1 := nf_mid (con u) (con (con u)) (nf_eqv e).symm
  rw [h1, con_con]
  have h2 := (((eqv_con' u).app (Eqv.refl a)).app (eqv_con' u)).nf
  simpa using h2
theorem Rot.cj {a b : List Pc} (h : Rot a b) : Cj a b := by
  obtain ⟨x, y, rfl, rfl⟩ := h
  refine ⟨con x, ?_⟩
  rw [con_con]
  have := ((eqv_con' x).app (Eqv.refl (y ++ x))).nf
  simpa using this
theorem rot_led (o c : List Pc) : Cj c (o ++ c ++ con o) := ⟨o, rfl⟩
/-- the least of all beginnings -/
def Lst (i m : List Pc) : Prop := Rot i m ∧ ∀ x, Rot i x → plt x m = false
theorem Lst.eq {i j m n : List Pc} (h : Lst i m) (g : Lst j n) (r : Rot i j) : m = n :=
  ord_tri (g.2 m (r.symm.trans h.1)) (h.2 n (r.trans g.1))
def IsRing (c m : List Pc) : Prop := ∃ i, Cyc i ∧ Cj i c ∧ Lst i m
theorem IsRing.eq {c d m n : List Pc} (h : IsRing c m) (g : IsRing d n) (r : Cj c d) : m = n := by
  obtain ⟨i, ci, hi, li⟩ := h
  obtain ⟨j, cj, hj, lj⟩ := g
  exact li.eq lj (conj_rot ci cj ((hi.trans r).trans hj.symm))
theorem IsRing.cj {c m : List Pc} (h : IsRing c m) : Cj m c := by
  obtain ⟨i, ci, hi, li⟩ := h
  exact li.1.cj.symm.trans hi
theorem IsRing.cyc {c m : List Pc} (h : IsRing c m) : Cyc m := by
  obtain ⟨i, ci, hi, li⟩ := h
  exact ci.rt li.1
theorem IsRing.own {c m : List Pc} (h : IsRing c m) : IsRing m m := by
  obtain ⟨i, ci, hi, li⟩ := h
  exact ⟨m, ci.rt li.1, .of rfl, .refl _, fun x r => li.2 x (li.1.trans r)⟩
/-- a least one among the first n beginnings -/
def Low (i : List Pc) (n k : Nat) : Prop := k ≤ i.length ∧ ∀ j, j < n → plt (i.drop j ++ i.take j) (i.drop k ++ i.take k) = false
theorem Low.all {i : List Pc} {k : Nat} (h : Low i i.length k) : Lst i (i.drop k ++ i.take k) := by
  refine ⟨rot_at i k, fun x r => ?_⟩
  rcases r.cut with z | ⟨j, hj, z⟩
  · subst z
    cases x with
    | nil => simp; exact ord_irr _
    | cons p x =>
      have := h.2 0 (by simp)
      simpa using this
  · subst z
    exact h.2 j hj
/-! ### name = f(..), a new list or a thing -/
variable [KC]
section
variable {X : Cx} {E : XK} {e : Expr} {es : List Expr} {pos p : Pos} {wl : WL} {k : Nat} {f : Addr} {fd : FuncData} {ps : List Str} {sp : Spec} {x : Str}
def setV (q : DEnds) (ρ : Ev) (i : Nat) : Rt → Prop
  | .new (.lst xs) => q.nx (ρ.set i (.own false (.lst xs)))
  | .new _ => False
  | .val d => q.nx (ρ.set i (.fz d))
  | .newT d => q.nx (ρ.set i (.fz d))
def wsSetV (i : Nat) (sp : Spec) (wl : WL) : WS := fun q ρ => wl q.ex ρ fun ds => Ask sp ds q.ex (setV q ρ i) ⟨⟩
theorem sd_setV (i : Nat) {y : Str} {p2 spos : Pos} (hN : X.N.Nodup) (G : FnOk X.prog X.w X.K X.mg X.base (L2.CX X.prog X.w) k f fd ps (spOf X.mg sp)) (hr : Room k X.A) (xk : XOk X E) (hg : Gl X x) (hm : X.mg x = some (.ref f)) (hk : PySem.W.keepIn X.K (.ref f) = true) (hb : Binds X.K fd ps [])
    (ha : AD X E (e :: es) wl) (hdb : (x == ("__debug__" : Str)) = false := by decide) (he : starEach (e :: es) X.env = (false, eval e X.env) :: starEach es X.env := by rfl) (hpl : (backTo pos (starEach es X.env)).any (·.1) = false := by rfl)
    (hi : X.N[i]? = some y := by rfl) (hx : Loc X.env.scope y := by first | exact Or.inl rfl | exact Or.inr rfl) (hs : swapsWith (.Call (.Name x p) (e :: es) [] pos) (some (.Name y p2)) spos.line X.env = pure false := by rfl)
    (hf : X.fn y = true ∨ X.env.scope.names.lookup y = some .local := by first | exact .inl rfl | exact .inr rfl) : SD X E (.Assign [.Name y p2] (.Call (.Name x p) (e :: es) [] pos) spos) (wsSetV i sp wl) := by
  obtain ⟨t, pt, s⟩ := ha.ex
  refine ⟨_, ps_set hN hi hx (pe_call G hr hg hm hk hb .nil xk.pass pt hdb he hpl) hs hf, fun q ρ hw F σ H S D rp o => ?_⟩
  refine s q.ex ρ _ hw F σ H S _ rp (o.exOk rp) fun ds vs H1 S1 q1 g1 h1 => ?_
  refine ⟨ds, S1, q.ex, _, g1.sh, by rw [List.append_nil]; exact h1, q1, fun r v H2 S2 q2 g2 h2 => ?_, fun n C H2 S2 xn hC g2 => (o.exOk rp) n C H2 S2 xn hC (g1.trans g2)⟩
  cases r with
  | val d => exact o.nx _ _ H2 S2 q2 ((rp.grow (g1.trans g2)).set h2)
  | newT d => exact o.nx _ _ H2 S2 q2 ((rp.grow (g1.trans g2)).set h2.1)
  | new c =>
    cases c with
    | dct _ _ => exact q2.elim
    | lst xs =>
      obtain ⟨p, u, rfl, z0, z1, z2, ws, rfl, z3⟩ := h2
      exact o.nx _ _ H2 S2 q2 ((rp.grow (g1.trans g2)).setOwn z1 z2 ⟨ws, rfl, z3⟩ (fg_free rp.fg (g1.freeH z0)) (own_ne rp (g1.freeH z0)))
end
end NL

/-! A new tuple of new lists, and these lists changed by who asked for it. -/
namespace NL
open PySem PySem.Spec L2
open PyProof.Rows hiding St
variable [KC]
section
variable {X : Cx} {E : XK} {st : Stmt} {sts : List Stmt} {e a b : Expr} {es : List Expr} {pos p spos : Pos} {x : Str} {w wa wb we : WE} {wt : WT} {ws wu : WS} {wl : WL} {k : Nat} {f : Addr} {fd : FuncData} {ps : List Str} {sp : Spec}
def wsRetT (i : Nat) (wl : WL) : WS := fun q ρ => match ρ[i]? with
  | some (.own false (.lst xs)) => wl q.ex (ρ.set i (.fz (.lst xs))) fun ys => q.rt (.newT (.tup [.lst xs, .lst ys])) (ρ.set i (.fz (.lst xs)))
  | _ => False
theorem sd_retT (i : Nat) {k1 : Nat} {tp : Pos} (hb : DF X E b wl) (hN : X.N[i]? = some x := by rfl) (hv : Vis X.env.scope x := by first | exact Or.inl rfl | exact Or.inr (Or.inl rfl) | exact Or.inr (Or.inr rfl)) (hd : (x == ("__debug__" : Str)) = false := by decide)
    (hcd : (x == ("__classdict__" : Str)) = false := by decide) (he : starEach (.Name x p :: [b]) X.env = (false, eval (.Name x p) X.env) :: starEach [b] X.env := by rfl) (he2 : starEach (b :: []) X.env = (false, eval b X.env) :: starEach [] X.env := by rfl) :
    SD X E (.Return (some (.Tuple [.Name x p, b] k1 tp)) pos) (wsRetT i wl) := by
  obtain ⟨t, pt, s⟩ := hb.ex
  refine ⟨_, ps_ret (pe_tup (pa_cons (pe_var hN hv hd hcd) (pa_cons pt pa_nil he2) he)), fun q ρ hw F σ H S D rp o => ?_⟩
  unfold wsRetT at hw
  split at hw
  · rename_i xs hi
    obtain ⟨p, u, e, h1, h2, h3, _, h4⟩ := rp.own hi
    obtain ⟨us, rfl, h3⟩ := h3
    obtain ⟨S', r'⟩ := rp.frz hi
    have hl : i < ρ.length := by
      rcases Nat.lt_or_ge i ρ.length with q | q
      · exact q
      · rw [List.getElem?_eq_none q] at hi
        cases hi
    obtain ⟨v, e', hdat⟩ := r'.fz (d := .lst xs) (i := i) (by rw [List.getElem?_set_self hl]; rfl)
    rw [e] at e'
    cases e'
    refine ⟨.ref p, e, ?_⟩
    refine s q.ex _ _ hw F σ H S' _ r' (o.exOk r') fun ys p2 vs H1 S1 q1 g1 z0 z1 z2 hd2 => ⟨by simp [sizeLine_eq], fun t ht => ?_⟩
    have gA : Grow H S' H1 (upd S1 p2 (.lst vs)) := g1.share z0 z1 z2
    have ht2 := gA.freeS ht
    have gB := (gA.lay (o := .tup [.ref p, .ref p2]) ht).share (gA.freeH ht) ht2 upd_same
    have ne : p ≠ p2 := fun z => by rw [z, z0] at h2; cases h2
    refine o.rt _ _ _ σ _ _ q1 (r'.grow gB) ⟨?_, t, [.ref p, .ref p2], rfl, fg_free rp.fg (gA.freeH ht), upd_same, fun a ha => ?_, fun i j a hi hj => ?_⟩
    · unfold Dat
      exact ⟨t, _, rfl, upd_same, Dats.cons (Dat.mono gB.ss _ _ hdat) (Dats.one (Dat.mono (same_upd ht2) _ _ (Dat.lstOf upd_same (Dats.mono (same_upd z1) _ _ hd2))))⟩
    · simp only [List.mem_cons, List.not_mem_nil, or_false, V.ref.injEq] at ha
      rcases ha with rfl | rfl
      · exact h4 rfl
      · exact fg_free rp.fg z0
    · match i, j, hi, hj with
      | 0, 0, _, _ => rfl
      | 1, 1, _, _ => rfl
      | 0, 1, hi, hj => simp at hi hj; exact absurd (hi.trans hj.symm) ne
      | 1, 0, hi, hj => simp at hi hj; exact absurd (hj.trans hi.symm) ne
      | i + 2, _, hi, _ => simp at hi
      | _, j + 2, _, hj => simp at hj
  · exact hw.elim
def wsRetTF (wl : WL) (we : WE) : WS := fun q ρ => wl q.ex ρ fun xs => we q.ex ρ fun d => match d with
  | .int i => q.rt (.newT (.tup [.lst xs, .int i])) ρ
  | _ => False
theorem sd_retTF {k1 : Nat} {tp : Pos} (ha : DF X E a wl) (hb : ED X E b we) (he : starEach (a :: [b]) X.env = (false, eval a X.env) :: starEach [b] X.env := by rfl) (he2 : starEach (b :: []) X.env = (false, eval b X.env) :: starEach [] X.env := by rfl) :
    SD X E (.Return (some (.Tuple [a, b] k1 tp)) pos) (wsRetTF wl we) := by
  obtain ⟨t, pt, s⟩ := ha.ex
  obtain ⟨t2, pt2, s2⟩ := hb.ex
  refine ⟨_, ps_ret (pe_tup (pa_cons pt (pa_cons pt2 pa_nil he2) he)), fun q ρ hw F σ H S D rp o => ?_⟩
  refine s q.ex _ _ hw F σ H S _ rp (o.exOk rp) fun xs p vs H1 S1 q1 g1 z0 z1 z2 hd => ?_
  have gA : Grow H S H1 (upd S1 p (.lst vs)) := g1.share z0 z1 z2
  refine s2 q.ex _ _ q1 F σ H1 _ _ (rp.grow gA) ((o.exOk rp).grow gA) fun d u H2 S2 q2 g2 h2 => ⟨by simp [sizeLine_eq], fun t ht => ?_⟩
  have g12 := gA.trans g2
  have ht2 := g12.freeS ht
  have hp : Dat S2 (.lst xs) (.ref p) := Dat.mono g2.ss _ _ (Dat.lstOf upd_same (Dats.mono (same_upd z1) _ _ hd))
  cases d with
  | int i =>
    unfold Dat at h2
    subst h2
    have gB := (g12.lay (o := .tup [.ref p, .int i]) ht).share (g12.freeH ht) ht2 upd_same
    refine o.rt _ _ _ σ _ _ q2 (rp.grow gB) ⟨?_, t, [.ref p, .int i], rfl, fg_free rp.fg (g12.freeH ht), upd_same, fun a ha => ?_, fun i j a hi hj => ?_⟩
    · unfold Dat
      exact ⟨t, _, rfl, upd_same, Dats.cons (Dat.mono (same_upd ht2) _ _ hp) (Dats.one .i)⟩
    · simp only [List.mem_cons, List.not_mem_nil, or_false, V.ref.injEq, reduceCtorEq] at ha
      subst ha
      exact fg_free rp.fg z0
    · match i, j, hi, hj with
      | 0, 0, _, _ => rfl
      | 1, _, hi, _ => simp at hi
      | _, 1, _, hj => simp at hj
      | i + 2, _, hi, _ => simp at hi
      | _, j + 2, _, hj => simp at hj
  | _ => exact q2.elim

/-! ### the one who asked -/
structure Nst (F : Fr) (ρ : Ev) (σ : L2.St) (H Sb S : Hp) (i : Nat) (d : D) : Prop where
  full : Rep F (ρ.set i (.fz d)) σ H S
  base : Rep F (ρ.set i .un) σ H Sb
  lt : i < ρ.length
  th : ∃ p vs, σ[i]? = some (some (.ref p)) ∧ S p = some (.tup vs) ∧ (∀ a, V.ref a ∈ vs → Sb a = none ∧ F.H0 a = none ∧ ∀ (j : Nat) (m : Bool) (c : Cn), (ρ.set i .un)[j]? = some (.own m c) → σ[j]? ≠ some (some (.ref a))) ∧
    ∀ (i j : Nat) (a : Addr), vs[i]? = some (V.ref a) → vs[j]? = some (V.ref a) → i = j
theorem Nst.grow {F : Fr} {ρ : Ev} {σ : L2.St} {H Sb S H' S' : Hp} {i : Nat} {d : D} (n : Nst F ρ σ H Sb S i d) (g : Grow H S H' S') : Nst F ρ σ H' Sb S' i d := by
  refine ⟨n.full.grow g, n.base.grow ⟨g.hh, .refl _, fun a o h => g.hh a o (n.base.sh a o h), fun _ _ => rfl⟩, n.lt, ?_⟩
  obtain ⟨p, vs, h1, h2, h3⟩ := n.th
  exact ⟨p, vs, h1, g.ss _ _ h2, h3⟩
/-- a thing that no slot and nobody else has is changed -/
theorem Rep.poke {F : Fr} {ρ : Ev} {σ : L2.St} {H S : Hp} {p : Addr} {o' : HO} (r : Rep F ρ σ H S) (hS : S p = none) (h0 : F.H0 p = none) (hn : ∀ (j : Nat) (m : Bool) (c : Cn), ρ[j]? = some (.own m c) → σ[j]? ≠ some (some (.ref p))) : Rep F ρ σ (upd H p o') S := by
  refine ⟨⟨fun a u hm ha => ?_, fun a ha => ?_, r.fg.ss, fun a u ha => ?_, r.fg.nw⟩, r.len, fun j sl e => ?_, r.dist⟩
  · rw [upd_ne (fun z => by rw [z, h0] at ha; cases ha)]
    exact r.fg.hh a u hm ha
  · rw [upd_ne (fun z => ha (by rw [z]; exact h0))]
    exact r.fg.al a ha
  · rw [upd_ne (fun z => by rw [z, hS] at ha; cases ha)]
    exact r.fg.sh a u ha
  · have q := r.at' j sl e
    cases sl with
    | un => trivial
    | fz d => exact q
    | own m c =>
      obtain ⟨p3, o3, f1, f2, f3, f4, f5⟩ := q
      refine ⟨p3, o3, f1, f2, ?_, f4, f5⟩
      rw [upd_ne (fun z => hn j m c e (by rw [f1, z]))]
      exact f3
structure Mst (F : Fr) (ρ : Ev) (σ : L2.St) (H Sb : Hp) (i n : Nat) (ks : List Bool) : Prop where
  base : Rep F (ρ.set i .un) σ H Sb
  th : ∃ p vs, σ[i]? = some (some (.ref p)) ∧ H p = some (.tup vs) ∧ (∀ (i j : Nat) (a : Addr), vs[i]? = some (V.ref a) → vs[j]? = some (V.ref a) → i = j) ∧ ∀ k : Nat, ks[k]? = some true → ∃ a ws, vs[k]? = some (.ref a) ∧ H a = some (.lst ws) ∧ ws.length + n ≤ sizeLine ∧
    Sb a = none ∧ F.H0 a = none ∧ ∀ (j : Nat) (m : Bool) (c : Cn), (ρ.set i .un)[j]? = some (.own m c) → σ[j]? ≠ some (some (.ref a))
structure ND (X : Cx) (E : XK) (i : Nat) (sts : List Stmt) (w : D → WS) : Prop where
  ex : ∃ t, PSs X sts t ∧ ∀ (d : D) (q : DEnds) (ρ : Ev), w d q ρ → ∀ (F : Fr) (σ : L2.St) (H Sb S : Hp) (D : Ends), Nst F ρ σ H Sb S i d → EndsOk X.mg E F q D → t D σ H
structure MD (X : Cx) (E : XK) (i : Nat) (sts : List Stmt) (w : List Bool → Nat → WS) : Prop where
  ex : ∃ t, PSs X sts t ∧ ∀ (ks : List Bool) (n : Nat) (q : DEnds) (ρ : Ev), w ks n q ρ → ∀ (F : Fr) (σ : L2.St) (H Sb : Hp) (D : Ends), Mst F ρ σ H Sb i n ks → EndsOk X.mg E F q D → t D σ H
theorem md_end {i : Nat} (h : SDs X E sts ws) : MD X E i sts (fun _ _ q ρ => ws q (ρ.set i .un)) := by
  obtain ⟨t, p, s⟩ := h.ex
  exact ⟨t, p, fun ks n q ρ hw F σ H Sb D m o => s q _ hw F σ H Sb D m.base o⟩
def wmApp (i j : Nat) (we : WE) (wr : List Bool → Nat → WS) : List Bool → Nat → WS := fun ks n q ρ => ks[j]? = some true ∧ 1 ≤ n ∧ we q.ex (ρ.set i .un) fun _ => wr ks (n - 1) q ρ
theorem md_app (i j : Nat) {wr : List Bool → Nat → WS} {jj : Nat} {p2 p3 apos mpos : Pos} (he : ED X E e we) (hr : MD X E i sts wr) (hN : X.N[i]? = some x := by rfl) (hv : Vis X.env.scope x := by first | exact Or.inl rfl | exact Or.inr (Or.inl rfl) | exact Or.inr (Or.inr rfl)) (hd : (x == ("__debug__" : Str)) = false := by decide)
    (hcd : (x == ("__classdict__" : Str)) = false := by decide) (hpx : PlainIx (.Constant (.int j) jj p3) := by exact fun _ _ => rfl)
    (hbase : attributeBase (.Subscript (.Name x p) (.Constant (.int j) jj p3) p2) "append" X.env (eval (.Subscript (.Name x p) (.Constant (.int j) jj p3) p2) X.env) = eval (.Subscript (.Name x p) (.Constant (.int j) jj p3) p2) X.env := by rfl)
    (hfew : ((backTo mpos (starEach (e :: []) X.env)).all (fun x => !x.1) && (backToKw mpos (keywordEach [] X.env)).all (fun x => x.1.isSome)
      && decide ((e :: []).length + ([] : List Keyword).length + (if ([] : List Keyword).isEmpty then 0 else 1) < 30)) = true := by rfl)
    (hline : (apos.endLine == mpos.line) = true := by rfl) (hst : starEach (e :: []) X.env = (false, eval e X.env) :: starEach [] X.env := by rfl) (hplain : (backTo mpos (starEach [] X.env)).any (·.1) = false := by rfl)
    (hs : swapsWith (.Call (.Attribute (.Subscript (.Name x p) (.Constant (.int j) jj p3) p2) "append" apos) (e :: []) [] mpos) none pos.line X.env = pure false := by rfl) :
    MD X E i (.Expr (.Call (.Attribute (.Subscript (.Name x p) (.Constant (.int j) jj p3) p2) "append" apos) (e :: []) [] mpos) pos :: sts) (wmApp i j we wr) := by
  obtain ⟨t, pt, s⟩ := he.ex
  obtain ⟨t', pt', s'⟩ := hr.ex
  refine ⟨_, pss_cons (ps_expr (pe_bm PySem.F.plainAttrs_list PySem.F.slot_list_append PySem.F.type_list_append mt_append (pe_ix ix_seq (pe_var hN hv hd hcd) pe_int hpx) (pa_cons pt pa_nil hst) hbase hfew hline hst hplain) hs) pt', fun ks n q ρ hw F σ H Sb D m o => ?_⟩
  obtain ⟨hk, hn, hw⟩ := hw
  obtain ⟨p, vs, h1, h2, h4, h5⟩ := m.th
  obtain ⟨a, ws, a1, a2, a3, f1, f2, f3⟩ := h5 j hk
  refine ⟨.ref p, h1, ?_⟩
  refine .inr (.inl ⟨p, vs, _, .ref a, rfl, rfl, .of h2, atI_nat a1, ?_⟩)
  refine ⟨.inl ⟨rfl, _, .of a2⟩, ?_⟩
  refine s q.ex _ _ hw F σ H Sb _ m.base (o.exOk m.base) fun d v H1 S1 q1 g1 hv1 => ?_
  have z1 : S1 a = none := by rw [g1.nw a (by rw [a2]; simp)]; exact f1
  refine ⟨a, ws, v, rfl, rfl, g1.hh _ _ a2, by omega, ?_⟩
  refine s' ks (n - 1) q ρ q1 F σ _ S1 D ⟨(m.base.grow g1).poke z1 f2 f3, p, vs, h1, ?_, h4, fun k hk2 => ?_⟩ o
  · rw [upd_ne (fun z => by rw [z, a2] at h2; cases h2)]
    exact g1.hh _ _ h2
  · obtain ⟨b, us, b1, b2, b3, b4, b5, b6⟩ := h5 k hk2
    have b4' : S1 b = none := by rw [g1.nw b (by rw [b2]; simp)]; exact b4
    by_cases z : b = a
    · subst z
      exact ⟨b, _, b1, upd_same, by rw [List.length_append]; rw [a2] at b2; cases b2; simp; omega, b4', b5, b6⟩
    · exact ⟨b, us, b1, by rw [upd_ne z]; exact g1.hh _ _ b2, by omega, b4', b5, b6⟩
def isL : D → Bool
  | .lst _ => true
  | _ => false
def mutW (d : D) (w : List Bool → Nat → Prop) : Prop := match d with
  | .tup ds => ∃ n, (∀ xs, D.lst xs ∈ ds → xs.length + n ≤ sizeLine) ∧ w (ds.map isL) n
  | _ => False
theorem mst_of {F : Fr} {ρ : Ev} {σ : L2.St} {H Sb S : Hp} {i n : Nat} {ds : List D} (m : Nst F ρ σ H Sb S i (.tup ds)) (hn : ∀ xs, D.lst xs ∈ ds → xs.length + n ≤ sizeLine) : Mst F ρ σ H Sb i n (ds.map isL) := by
  obtain ⟨p, vs, h1, h2, h3, h4⟩ := m.th
  obtain ⟨v, e, hd⟩ := m.full.fz (d := .tup ds) (i := i) (by rw [List.getElem?_set_self m.lt])
  rw [h1] at e
  cases e
  unfold Dat at hd
  obtain ⟨p', vs', e, h2', hds⟩ := hd
  cases e
  rw [h2] at h2'
  cases h2'
  refine ⟨m.base, p, vs, h1, m.full.sh _ _ h2, h4, fun k hk => ?_⟩
  rw [List.getElem?_map] at hk
  cases hx : ds[k]? with
  | none => rw [hx] at hk; cases hk
  | some x =>
    rw [hx] at hk
    cases x with
    | lst xs =>
      obtain ⟨v, hv, hdv⟩ := hds.get hx
      unfold Dat at hdv
      obtain ⟨a, ws, rfl, ha, hws⟩ := hdv
      obtain ⟨b1, b2, b3⟩ := h3 a (List.mem_of_getElem? hv)
      exact ⟨a, ws, hv, m.full.sh _ _ ha, by rw [hws.len]; exact hn xs (List.mem_of_getElem? hx), b1, b2, b3⟩
    | _ => cases hk
theorem nd_mut {i : Nat} {wr : List Bool → Nat → WS} (h : MD X E i sts wr) : ND X E i sts (fun d q ρ => mutW d fun ks n => wr ks n q ρ) := by
  obtain ⟨t, p, s⟩ := h.ex
  refine ⟨t, p, fun d q ρ hw F σ H Sb S D m o => ?_⟩
  cases d with
  | tup ds =>
    obtain ⟨n, hn, hw⟩ := hw
    exact s _ n q ρ hw F σ H Sb D (mst_of m hn) o
  | _ => exact hw.elim
def wNIf (i : Nat) (wt : WT) (ws : WS) (wn : D → WS) : D → WS := fun d q ρ => wt q.ex (ρ.set i (.fz d)) fun b => Br b (ws { q with nx := fun _ => False } (ρ.set i (.fz d))) (wn d q ρ) ⟨⟩ ⟨⟩
theorem nd_if {i : Nat} {c : Expr} {p1 : List Stmt} {wn : D → WS} (hc : TD X E c wt) (ha : SDs X E p1 ws) (hr : ND X E i sts wn) : ND X E i (.If c p1 [] pos :: sts) (wNIf i wt ws wn) := by
  obtain ⟨t, p, s⟩ := hc.ex
  obtain ⟨ta, pa, sa⟩ := ha.ex
  obtain ⟨t', p', s'⟩ := hr.ex
  refine ⟨_, pss_cons (ps_if p pa pss_nil) p', fun d q ρ hw F σ H Sb S D m o => ?_⟩
  refine s q.ex _ _ hw F σ H S _ m.full (o.exOk m.full) fun b H1 S1 q1 g1 => ?_
  cases b with
  | true => exact iteT (sa _ _ q1 F σ H1 S1 _ (m.full.grow g1) ⟨fun _ _ _ _ z => z.elim, o.rt, o.bk, o.ct, o.ex⟩)
  | false => exact iteF (s' d q ρ q1 F σ H1 Sb S1 D (m.grow g1) o)
def wNIfM (i : Nat) (wt : WT) (wm : List Bool → Nat → WS) (ws : WS) : D → WS := fun d q ρ => wt q.ex (ρ.set i (.fz d)) fun b => b = true ∧ mutW d fun ks n => wm ks n { q with nx := ws q } ρ
theorem nd_ifM {i : Nat} {c : Expr} {p1 : List Stmt} {wm : List Bool → Nat → WS} (hc : TD X E c wt) (ha : MD X E i p1 wm) (hr : SDs X E sts ws) : ND X E i (.If c p1 [] pos :: sts) (wNIfM i wt wm ws) := by
  obtain ⟨t, p, s⟩ := hc.ex
  obtain ⟨ta, pa, sa⟩ := ha.ex
  obtain ⟨t', p', s'⟩ := hr.ex
  refine ⟨_, pss_cons (ps_if p pa pss_nil) p', fun d q ρ hw F σ H Sb S D m o => ?_⟩
  refine s q.ex _ _ hw F σ H S _ m.full (o.exOk m.full) fun b H1 S1 q1 g1 => ?_
  obtain ⟨rfl, q1⟩ := q1
  refine iteT ?_
  have m1 := m.grow g1
  cases d with
  | tup ds =>
    obtain ⟨n, hn, hw⟩ := q1
    exact sa _ n _ ρ hw F σ H1 Sb _ (mst_of m1 hn) ⟨fun ρ1 σ1 H1 S1 q1 r1 => s' q ρ1 q1 F σ1 H1 S1 D r1 o, o.rt, o.bk, o.ct, o.ex⟩
  | _ => exact q1.elim
def wsNo : WS := fun _ _ => False
theorem sd_no : SD X E st wsNo := ⟨fun _ _ _ => False, ⟨fun _ _ _ _ _ _ h => h.elim⟩, fun _ _ h => h.elim⟩
def nestQ (q : DEnds) (ρ : Ev) (i : Nat) (wv : WS) (wn : D → WS) : Rt → Prop
  | .newT d => i < ρ.length ∧ wn d q ρ
  | .val d => wv q (ρ.set i (.fz d))
  | .new _ => False
def wNest (i : Nat) (sp : Spec) (wl : WL) (wv : WS) (wn : D → WS) : WS := fun q ρ => wl q.ex ρ fun ds => Ask sp ds q.ex (nestQ q ρ i wv wn) ⟨⟩
theorem sds_nest (i : Nat) {y : Str} {p2 : Pos} {wn : D → WS} (hN : X.N.Nodup) (G : FnOk X.prog X.w X.K X.mg X.base (L2.CX X.prog X.w) k f fd ps (spOf X.mg sp)) (hr : Room k X.A) (xk : XOk X E) (hg : Gl X x) (hm : X.mg x = some (.ref f)) (hk : PySem.W.keepIn X.K (.ref f) = true) (hb : Binds X.K fd ps [])
    (ha : AD X E (e :: es) wl) (hv : SDs X E sts ws) (hn : ND X E i sts wn) (hdb : (x == ("__debug__" : Str)) = false := by decide) (he : starEach (e :: es) X.env = (false, eval e X.env) :: starEach es X.env := by rfl) (hpl : (backTo pos (starEach es X.env)).any (·.1) = false := by rfl)
    (hi : X.N[i]? = some y := by rfl) (hx : Loc X.env.scope y := by first | exact Or.inl rfl | exact Or.inr rfl) (hs : swapsWith (.Call (.Name x p) (e :: es) [] pos) (some (.Name y p2)) spos.line X.env = pure false := by rfl)
    (hf : X.fn y = true ∨ X.env.scope.names.lookup y = some .local := by first | exact .inl rfl | exact .inr rfl) : SDs X E (.Assign [.Name y p2] (.Call (.Name x p) (e :: es) [] pos) spos :: sts) (wNest i sp wl ws wn) := by
  obtain ⟨t, pt, s⟩ := ha.ex
  obtain ⟨tv, pv, sv⟩ := hv.ex
  obtain ⟨tn, pn, sn⟩ := hn.ex
  have por : PSs X sts (fun D σ H => tv D σ H ∨ tn D σ H) := ⟨fun pins s σ H D I h => h.elim (pv.run pins s σ H D I) (pn.run pins s σ H D I)⟩
  refine ⟨_, pss_cons (ps_set hN hi hx (pe_call G hr hg hm hk hb .nil xk.pass pt hdb he hpl) hs hf) por, fun q ρ hw F σ H S D rp o => ?_⟩
  refine s q.ex ρ _ hw F σ H S _ rp (o.exOk rp) fun ds vs H1 S1 q1 g1 h1 => ?_
  refine ⟨ds, S1, q.ex, _, g1.sh, by rw [List.append_nil]; exact h1, q1, fun r v H2 S2 q2 g2 h2 => ?_, fun n C H2 S2 xn hC g2 => (o.exOk rp) n C H2 S2 xn hC (g1.trans g2)⟩
  cases r with
  | val d => exact .inl (sv q _ q2 F _ H2 S2 D ((rp.grow (g1.trans g2)).set h2) o)
  | new c => exact q2.elim
  | newT d =>
    obtain ⟨hl, q2⟩ := q2
    obtain ⟨hd, p, us, rfl, z0, z1, z2, z3⟩ := h2
    have r1 := rp.grow g1
    have rb : Rep F ρ σ H2 S1 := r1.grow ⟨g2.hh, .refl _, fun a o h => g2.hh a o (r1.sh a o h), fun _ _ => rfl⟩
    have hls : i < σ.length := by rw [rp.len]; exact hl
    refine .inr (sn d q ρ q2 F _ H2 S1 S2 D ⟨(rp.grow (g1.trans g2)).set hd, rb.unset, hl, p, us, by rw [List.getElem?_set_self hls], z1, fun a ha => ⟨r1.sh.free (z2 a ha), fg_free r1.fg (z2 a ha), fun j m c hj => ?_⟩, z3⟩ o)
    have ij : i ≠ j := fun z => by
      subst z
      rw [List.getElem?_set_self hl] at hj
      cases hj
    rw [List.getElem?_set_ne ij] at hj ⊢
    exact own_ne r1 (z2 a ha) j m c hj
end
end NL

/-! Powers of cords, and roots. -/
namespace NL
open PySem PySem.Spec L2
open PyProof.Rows hiding St
def pw (t : Nat) (u : List Pc) : List Pc := (List.replicate t u).flatten
theorem pw_zero (u : List Pc) : pw 0 u = [] := rfl
theorem pw_succ (t : Nat) (u : List Pc) : pw (t + 1) u = u ++ pw t u := by simp [pw, List.replicate_succ]
theorem pw_one (u : List Pc) : pw 1 u = u := by simp [pw]
theorem pw_add (s t : Nat) (u : List Pc) : pw (s + t) u = pw s u ++ pw t u := by
  induction s with
  | zero => simp [pw_zero]
  | succ s ih => rw [Nat.add_right_comm, pw_succ, pw_succ, ih, List.append_assoc]
theorem pw_succ' (t : Nat) (u : List Pc) : pw (t + 1) u = pw t u ++ u := by rw [pw_add, pw_one]
theorem pw_len (t : Nat) (u : List Pc) : (pw t u).length = t * u.length := by
  induction t with
  | zero => simp [pw_zero]
  | succ t ih => rw [pw_succ, List.length_append, ih, Nat.succ_mul, Nat.add_comm]
theorem pw_pw (s t : Nat) (u : List Pc) : pw s (pw t u) = pw (s * t) u := by
  induction s with
  | zero => simp [pw_zero]
  | succ s ih => rw [pw_succ, ih, ← pw_add, Nat.succ_mul, Nat.add_comm]
theorem pw_nil (t : Nat) : pw t [] = [] := by simp [pw]
theorem pw_mem {t : Nat} {u : List Pc} {p : Pc} (h : p ∈ pw t u) : p ∈ u := by
  unfold pw at h
  obtain ⟨v, hv, hp⟩ := List.mem_flatten.mp h
  rw [(List.mem_replicate.mp hv).2] at hp
  exact hp
theorem pw_rot1 (p : Pc) (v : List Pc) : ∀ t, v ++ pw t (p :: v) ++ [p] = pw (t + 1) (v ++ [p])
  | 0 => by simp [pw_zero, pw_succ]
  | t + 1 => by
    rw [pw_succ (t + 1) (v ++ [p]), ← pw_rot1 p v t, pw_succ]
    simp
theorem rk_rot {t : Nat} : ∀ (x y u : List Pc), x ++ y = pw t u → ∃ u', y ++ x = pw t u' ∧ Rot u u'
  | [], y, u, h => ⟨u, by simpa using h, .refl u⟩
  | p :: x, y, u, h => by
    match t, u, h with
    | 0, u, h => simp [pw_zero] at h
    | t + 1, [], h => rw [pw_nil] at h; simp at h
    | t + 1, q :: v, h =>
      rw [pw_succ] at h
      simp only [List.cons_append, List.cons.injEq] at h
      obtain ⟨rfl, h⟩ := h
      have e : x ++ (y ++ [p]) = pw (t + 1) (v ++ [p]) := by
        rw [← pw_rot1, ← List.append_assoc, h]
      obtain ⟨u', e', r⟩ := rk_rot x (y ++ [p]) _ e
      exact ⟨u', by rw [← e']; simp, Rot.trans ⟨[p], v, rfl, rfl⟩ r⟩
def Rk (r : List Pc) (t : Nat) : Prop := ∃ u, r = pw t u
theorem Rk.rot {a b : List Pc} {t : Nat} (h : Rk a t) (r : Rot a b) : Rk b t := by
  obtain ⟨u, e⟩ := h
  obtain ⟨x, y, rfl, rfl⟩ := r
  obtain ⟨u', e', _⟩ := rk_rot x y u e
  exact ⟨u', e'⟩
def IsRt (r : List Pc) (t : Nat) : Prop := Rk r t ∧ 1 ≤ t ∧ ∀ t', Rk r t' → t' ≤ t
theorem IsRt.eq {a b : List Pc} {s t : Nat} (h : IsRt a s) (g : IsRt b t) (r : Rot a b) : s = t :=
  Nat.le_antisymm (g.2.2 s (h.1.rot r)) (h.2.2 t (g.1.rot r.symm))
def Oft (c : List Pc) (T : Nat) : Prop := ∃ i, Cyc i ∧ Cj i c ∧ ((∃ n v, i = [(n, v)] ∧ T = v.natAbs) ∨ (2 ≤ i.length ∧ IsRt i T))
theorem rot_single {p : Pc} {j : List Pc} (h : Rot [p] j) : j = [p] := by
  obtain ⟨x, y, e, rfl⟩ := h
  match x, y, e with
  | [], [q], e => simpa using e.symm
  | [q], [], e => simpa using e.symm
  | q :: r :: x, y, e => simp at e
  | [q], r :: y, e => simp at e
  | [], q :: r :: y, e => simp at e
theorem Oft.eq {c d : List Pc} {s t : Nat} (h : Oft c s) (g : Oft d t) (e : Cj c d) : s = t := by
  obtain ⟨i, i1, i2, i3⟩ := h
  obtain ⟨j, j1, j2, j3⟩ := g
  have r := conj_rot i1 j1 ((i2.trans e).trans j2.symm)
  rcases i3 with ⟨n, v, rfl, rfl⟩ | ⟨h2, h3⟩
  · have := rot_single r
    subst this
    rcases j3 with ⟨m, w, e1, rfl⟩ | ⟨h2, _⟩
    · simp at e1; rw [e1.2]
    · simp at h2
  · have hl := r.len
    rcases j3 with ⟨m, w, rfl, rfl⟩ | ⟨g2, g3⟩
    · simp at hl; omega
    · exact h3.eq g3 r
theorem pw_congr {a b : List Pc} (h : Eqv a b) : ∀ t, Eqv (pw t a) (pw t b)
  | 0 => .refl _
  | t + 1 => by rw [pw_succ, pw_succ]; exact h.app (pw_congr h t)
theorem eqv_pw (o u : List Pc) : ∀ t, Eqv (o ++ pw t u ++ con o) (pw t (o ++ u ++ con o))
  | 0 => by rw [pw_zero, pw_zero, List.append_nil]; exact eqv_con o
  | t + 1 => by
    rw [pw_succ, pw_succ]
    have h := (Eqv.refl (o ++ u ++ con o)).app (eqv_pw o u t)
    refine Eqv.trans ?_ h
    have h2 : Eqv (o ++ u ++ (con o ++ o) ++ (pw t u ++ con o)) (o ++ u ++ [] ++ (pw t u ++ con o)) := ((Eqv.refl _).app (eqv_con' o)).app (.refl _)
    rw [List.append_nil] at h2
    simpa [List.append_assoc] using h2.symm
theorem eqv_pw1 (n : Str) (v : Int) : ∀ t : Nat, Eqv (pw t [(n, v)]) [(n, v * t)]
  | 0 => by
    rw [pw_zero]
    simpa using eqv_zero (n := n)
  | t + 1 => by
    rw [pw_succ]
    refine ((Eqv.refl [(n, v)]).app (eqv_pw1 n v t)).trans ?_
    exact (eqv_part (n := n) (a := v) (b := v * t) (t := v * ((t + 1 : Nat) : Int)) (by rw [Int.natCast_add, Int.mul_add]; omega)).symm
/-- g is the root of c, so many times -/
structure RootOf (c g : List Pc) (t : Nat) : Prop where
  red : Red g
  ne : g ≠ []
  pos : 1 ≤ t
  pow : nf (pw t g) = nf c
  oft : Oft c t
  own : Oft g 1
  few : ∃ b, Cyc b ∧ Cj b g ∧ (2 ≤ b.length → b.length * t ≤ c.length)
theorem led_ne {o i c : List Pc} (hi : Red i) (h0 : i ≠ []) (h : nf (o ++ i ++ con o) = nf c) : nf c ≠ [] := fun z => by
  rw [z] at h
  have e : Eqv (o ++ i ++ con o) (o ++ [] ++ con o) := eqv_iff'.mpr (by rw [h, List.append_nil, nf_con])
  have := (eqv_mid e.nf).nf
  rw [red_nf hi] at this
  exact h0 this
theorem pw_red2 {t : Nat} {b : List Pc} (ht : 1 ≤ t) (h : Red (pw t b)) (h2 : 2 ≤ (pw t b).length) : 2 ≤ b.length := by
  match b, t, ht, h, h2 with
  | [], t, _, _, h2 => rw [pw_nil] at h2; simp at h2
  | [p], 1, _, _, h2 => rw [pw_one] at h2; exact h2
  | [p], t + 2, _, h, _ =>
    rw [pw_succ, pw_succ] at h
    exact absurd rfl h.ne
  | p :: q :: b, _, _, _, _ => simp
theorem cyc_pw {t : Nat} {b : List Pc} (ht : 1 ≤ t) (h : Cyc (pw t b)) (h2 : 2 ≤ (pw t b).length) : Cyc b := by
  obtain ⟨k, rfl⟩ : ∃ k, t = k + 1 := ⟨t - 1, by omega⟩
  have b2 := pw_red2 ht h.1 h2
  refine ⟨by have := h.1; rw [pw_succ] at this; exact red_part1 this, fun _ p q hp hq => h.2 h2 p q ?_ ?_⟩
  · rw [pw_succ, List.head?_append, hp]; rfl
  · rw [pw_succ', List.getLast?_append, hq]; rfl
theorem IsRt.prim {i b : List Pc} {t : Nat} (h : IsRt i t) (e : i = pw t b) : IsRt b 1 :=
  ⟨⟨b, (pw_one b).symm⟩, by omega, fun k ⟨u, hu⟩ => by
    have h2 := h.2.2 (t * k) ⟨u, by rw [e, hu, pw_pw]⟩
    have h1 := h.2.1
    rcases Nat.lt_or_ge 1 k with hk | hk
    · exact absurd h2 (by have : t * 2 ≤ t * k := Nat.mul_le_mul_left t hk; omega)
    · exact hk⟩
theorem root_many {c o i b : List Pc} {t : Nat} (hi : Cyc i) (h2 : 2 ≤ i.length) (h : nf (o ++ i ++ con o) = nf c) (hl : i.length ≤ c.length) (r : IsRt i t) (e : i = pw t b) : RootOf c (nf (o ++ b ++ con o)) t := by
  have i0 : i ≠ [] := fun z => by rw [z] at h2; simp at h2
  have hp : nf (pw t (nf (o ++ b ++ con o))) = nf c := by
    rw [(pw_congr (eqv_nf (o ++ b ++ con o)) t).symm.nf, ← (eqv_pw o b t).nf, ← e, h]
  have cb : Cyc b := cyc_pw r.2.1 (e ▸ hi) (e ▸ h2)
  have b2 : 2 ≤ b.length := pw_red2 r.2.1 (e ▸ hi.1) (e ▸ h2)
  have cj : Cj b (nf (o ++ b ++ con o)) := ⟨o, (nf_nf _).symm⟩
  refine ⟨nf_red _, fun z => ?_, r.2.1, hp, ⟨i, hi, ⟨o, h⟩, .inr ⟨h2, r⟩⟩, ⟨b, cb, cj, .inr ⟨b2, r.prim e⟩⟩, b, cb, cj, fun _ => ?_⟩
  · rw [z, pw_nil] at hp
    exact led_ne hi.1 i0 h hp.symm
  · have := congrArg List.length e
    rw [pw_len] at this
    rw [Nat.mul_comm, ← this]
    exact hl
theorem root_one {c o : List Pc} {n : Str} {v s : Int} (v0 : v ≠ 0) (h : nf (o ++ [(n, v)] ++ con o) = nf c) (hs : s * (v.natAbs : Int) = v) : RootOf c (nf (o ++ [(n, s)] ++ con o)) v.natAbs := by
  have cyc1 : ∀ w : Int, w ≠ 0 → Cyc [(n, w)] := fun w w0 => ⟨w0, fun h => by simp at h⟩
  have s0 : s ≠ 0 := fun z => by rw [z] at hs; simp at hs; exact v0 hs.symm
  have s1 : s.natAbs = 1 := by
    have := congrArg Int.natAbs hs
    rw [Int.natAbs_mul, Int.natAbs_natCast] at this
    have vp : 0 < v.natAbs := by omega
    exact Nat.eq_of_mul_eq_mul_right vp (by rw [this, Nat.one_mul])
  have hp : nf (pw v.natAbs (nf (o ++ [(n, s)] ++ con o))) = nf c := by
    rw [(pw_congr (eqv_nf (o ++ [(n, s)] ++ con o)) v.natAbs).symm.nf, ← (eqv_pw o [(n, s)] v.natAbs).nf, ← h]
    have := ((Eqv.refl o).app (eqv_pw1 n s v.natAbs)).app (.refl (con o))
    rw [hs] at this
    exact this.nf
  have cj : Cj [(n, s)] (nf (o ++ [(n, s)] ++ con o)) := ⟨o, (nf_nf _).symm⟩
  refine ⟨nf_red _, fun z => ?_, by omega, hp, ⟨_, cyc1 v v0, ⟨o, h⟩, .inl ⟨n, v, rfl, rfl⟩⟩, ⟨_, cyc1 s s0, cj, .inl ⟨n, s, rfl, s1.symm⟩⟩, _, cyc1 s s0, cj, fun z => by simp at z⟩
  rw [z, pw_nil] at hp
  exact led_ne (i := [(n, v)]) v0 (by simp) h hp.symm
theorem RootOf.again {c g g' : List Pc} {t t' : Nat} (h : RootOf c g t) (h' : RootOf g g' t') : g' = g ∧ t' = 1 := by
  have e := h'.oft.eq h.own (Cj.of rfl)
  subst e
  have := h'.pow
  rw [pw_one, red_nf h'.red, red_nf h.red] at this
  exact ⟨this, rfl⟩
/-- so many of a beginning -/
theorem rk_take {r : List Pc} {t : Nat} (h : Rk r t) (ht : 1 ≤ t) : r.length / t * t = r.length ∧ pw t (r.take (r.length / t)) = r := by
  obtain ⟨u, e⟩ := h
  have hl : r.length = t * u.length := by rw [e, pw_len]
  have hd : r.length / t = u.length := by rw [hl]; exact Nat.mul_div_cancel_left _ (by omega)
  obtain ⟨k, rfl⟩ : ∃ k, t = k + 1 := ⟨t - 1, by omega⟩
  refine ⟨by rw [hd, hl, Nat.mul_comm], ?_⟩
  have : r.take u.length = u := by rw [e, pw_succ]; simp
  rw [hd, this, e]
/-- all turns round a nail -/
def exN (n : Str) (c : List Pc) : Int := (c.map fun p => if p.1 = n then p.2 else 0).sum
theorem exN_cons (n : Str) (p : Pc) (c : List Pc) : exN n (p :: c) = (if p.1 = n then p.2 else 0) + exN n c := by simp [exN]
theorem exN_app (n : Str) (c d : List Pc) : exN n (c ++ d) = exN n c + exN n d := by simp [exN]
theorem exN_ps (n : Str) (p : Pc) (w : List Pc) : exN n (ps p w) = exN n (p :: w) := by
  by_cases h0 : p.2 = 0
  · obtain ⟨m, t⟩ := p
    simp only at h0
    subst h0
    rw [ps_zero, exN_cons]
    simp
  cases w with
  | nil => rw [ps_nil h0]
  | cons l r =>
    by_cases e : l.1 = p.1
    · by_cases s : p.2 + l.2 = 0
      · rw [ps_gone h0 e s, exN_cons, exN_cons, e]
        split <;> omega
      · rw [ps_same h0 e s, exN_cons, exN_cons, exN_cons, e]
        split <;> simp_all <;> omega
    · rw [ps_other h0 e]
theorem exN_nf (n : Str) : ∀ c : List Pc, exN n (nf c) = exN n c
  | [] => rfl
  | p :: c => by
    show exN n (ps p (nf c)) = _
    rw [exN_ps, exN_cons, exN_nf n c, exN_cons]
theorem exN_con (n : Str) (c : List Pc) : exN n (con c) = - exN n c := by
  induction c with
  | nil => rfl
  | cons p c ih =>
    rw [con_cons, exN_app, ih, exN_cons, exN_cons]
    have : exN n [] = 0 := rfl
    rw [this]
    by_cases h : p.1 = n <;> simp [h] <;> omega
theorem exN_bd (n : Str) {b : Nat} : ∀ {c : List Pc}, (∀ p ∈ c, p.2.natAbs ≤ b) → (exN n c).natAbs ≤ c.length * b
  | [], _ => Nat.zero_le _
  | p :: c, h => by
    have h1 := h p (List.mem_cons_self ..)
    have h2 := exN_bd n (c := c) fun q hq => h q (List.mem_cons_of_mem _ hq)
    rw [exN_cons, List.length_cons, Nat.succ_mul]
    split <;> omega
theorem exN_pw (n : Str) (u : List Pc) : ∀ t : Nat, exN n (pw t u) = t * exN n u
  | 0 => by simp [pw_zero, exN]
  | t + 1 => by rw [pw_succ, exN_app, exN_pw n u t, Int.natCast_add, Int.add_mul]; omega
theorem led_ex {o i c : List Pc} (n : Str) (h : nf (o ++ i ++ con o) = nf c) : exN n i = exN n c := by
  have := congrArg (exN n) h
  rw [exN_nf, exN_nf, exN_app, exN_app, exN_con] at this
  omega
theorem RootOf.ex {c g : List Pc} {t : Nat} (h : RootOf c g t) (n : Str) : exN n c = t * exN n g := by
  have := congrArg (exN n) h.pow
  rw [exN_nf, exN_nf, exN_pw] at this
  exact this.symm
theorem RootOf.exg {c g : List Pc} {t B : Nat} (h : RootOf c g t) (hc : ∀ n, (exN n c).natAbs < B) : ∀ n, (exN n g).natAbs < B := fun n => by
  have h1 := congrArg Int.natAbs (h.ex n)
  rw [Int.natAbs_mul, Int.natAbs_natCast] at h1
  have h2 := hc n
  have h3 : 1 * (exN n g).natAbs ≤ t * (exN n g).natAbs := Nat.mul_le_mul_right _ h.pos
  omega
theorem RootOf.lim {c g : List Pc} {t : Nat} (h : RootOf c g t) : ∀ b, Cyc b → Cj b g → 2 ≤ b.length → b.length * t ≤ c.length := fun b hb hj h2 => by
  obtain ⟨b0, c0, j0, l0⟩ := h.few
  have := (conj_rot c0 hb (j0.trans hj.symm)).len
  rw [this]
  exact l0 (by omega)
theorem RootOf.times {c g : List Pc} {t B : Nat} (h : RootOf c g t) (hc : ∀ n, (exN n c).natAbs < B) (hl : c.length < B) : t < B := by
  obtain ⟨b, cb, ⟨u, hu⟩, l0⟩ := h.few
  match b, cb, hu, l0 with
  | [], _, hu, _ =>
    rw [List.append_nil, nf_con] at hu
    rw [red_nf h.red] at hu
    exact absurd hu.symm h.ne
  | [(n, w)], cb, hu, _ =>
    have e1 := led_ex n hu
    have e2 : exN n [(n, w)] = w := by simp [exN]
    have w0 : w ≠ 0 := cb.1
    have h1 := congrArg Int.natAbs (h.ex n)
    rw [Int.natAbs_mul, Int.natAbs_natCast, ← e1, e2] at h1
    have h2 := hc n
    have h3 : t * 1 ≤ t * w.natAbs := Nat.mul_le_mul_left _ (by omega)
    omega
  | a :: b :: r, _, _, l0 =>
    have h1 := l0 (by simp)
    have h3 : 1 * t ≤ (a :: b :: r).length * t := Nat.mul_le_mul_right _ (by simp)
    omega
end NL

/-! What changes places with a cord. -/
namespace NL
open PySem PySem.Spec L2
open PyProof.Rows hiding St
/-- a power of i, either way -/
def InZ (i w : List Pc) : Prop := ∃ t : Nat, Eqv w (pw t i) ∨ Eqv w (con (pw t i))
theorem InZ.one {i : List Pc} : InZ i [] := ⟨0, .inl (.refl _)⟩
theorem InZ.congr {i w v : List Pc} (h : InZ i w) (e : Eqv v w) : InZ i v := by
  obtain ⟨t, h | h⟩ := h
  · exact ⟨t, .inl (e.trans h)⟩
  · exact ⟨t, .inr (e.trans h)⟩
theorem con_nil : con [] = [] := rfl
theorem eqv_l {a b : List Pc} (c : List Pc) (h : Eqv a b) : Eqv (c ++ a) (c ++ b) := (Eqv.refl c).app h
theorem eqv_r {a b : List Pc} (c : List Pc) (h : Eqv a b) : Eqv (a ++ c) (b ++ c) := h.app (.refl c)
theorem InZ.more {i w : List Pc} (h : InZ i w) : InZ i (i ++ w) := by
  obtain ⟨t, h | h⟩ := h
  · exact ⟨t + 1, .inl (by rw [pw_succ]; exact eqv_l i h)⟩
  · match t, h with
    | 0, h => exact ⟨1, .inl (by
        rw [pw_one]
        have := eqv_l i h
        rw [pw_zero, con_nil, List.append_nil] at this
        exact this)⟩
    | t + 1, h =>
      refine ⟨t, .inr ((eqv_l i h).trans ?_)⟩
      rw [pw_succ', con_app, ← List.append_assoc]
      have := eqv_r (con (pw t i)) (eqv_con i)
      simpa using this
theorem InZ.less {i w : List Pc} (h : InZ i w) : InZ i (con i ++ w) := by
  obtain ⟨t, h | h⟩ := h
  · match t, h with
    | 0, h => exact ⟨1, .inr (by
        rw [pw_one]
        have := eqv_l (con i) h
        rw [pw_zero, List.append_nil] at this
        exact this)⟩
    | t + 1, h =>
      refine ⟨t, .inl ((eqv_l (con i) h).trans ?_)⟩
      rw [pw_succ, ← List.append_assoc]
      have := eqv_r (pw t i) (eqv_con' i)
      simpa using this
  · refine ⟨t + 1, .inr ((eqv_l (con i) h).trans ?_)⟩
    rw [pw_succ', con_app]
    exact .refl _
theorem con_led (a i : List Pc) : con (a ++ i ++ con a) = a ++ con i ++ con a := by
  rw [con_app, con_app, con_con, List.append_assoc]
theorem InZ.led {i j a w : List Pc} (h : InZ j w) (e : Eqv j (a ++ i ++ con a)) : ∃ w', InZ i w' ∧ Eqv w (a ++ w' ++ con a) := by
  obtain ⟨t, h | h⟩ := h
  · exact ⟨pw t i, ⟨t, .inl (.refl _)⟩, h.trans ((pw_congr e t).trans (eqv_pw a i t).symm)⟩
  · refine ⟨con (pw t i), ⟨t, .inr (.refl _)⟩, h.trans ?_⟩
    have := eqv_con_congr ((pw_congr e t).trans (eqv_pw a i t).symm)
    rw [con_led] at this
    exact this
theorem InZ.lead {i a w : List Pc} (h : InZ i w) : InZ (a ++ i ++ con a) (a ++ w ++ con a) := by
  obtain ⟨t, h | h⟩ := h
  · exact ⟨t, .inl ((eqv_r _ (eqv_l a h)).trans (eqv_pw a i t))⟩
  · refine ⟨t, .inr ((eqv_r _ (eqv_l a h)).trans ?_)⟩
    have := eqv_con_congr (eqv_pw a i t)
    rw [con_led] at this
    exact this
theorem InZ.base {i j w : List Pc} (h : InZ i w) (e : Eqv i j) : InZ j w := by
  obtain ⟨t, h | h⟩ := h
  · exact ⟨t, .inl (h.trans (pw_congr e t))⟩
  · exact ⟨t, .inr (h.trans (eqv_con_congr (pw_congr e t)))⟩
/-- how u leads i to j -/
def Way (u i j : List Pc) : Prop := ∃ x y w, i = x ++ y ∧ j = y ++ x ∧ InZ i w ∧ Eqv u (y ++ w)
theorem way_front {v m : List Pc} {a b p : Pc} {j : List Pc} (ha : a = (p.1, -p.2)) (h : Way v (m ++ [b] ++ [a]) j) : Way (v ++ [p]) (a :: (m ++ [b])) j := by
  obtain ⟨x', y', w', e1, e2, hw, ev⟩ := h
  have pa : Eqv ([p] ++ [a]) [] := by rw [ha]; exact eqv_one p
  have ap : Eqv ([a] ++ [p]) [] := by
    have := eqv_one a
    have e : con [a] = [p] := by rw [ha]; simp [con]
    rw [e] at this
    exact this
  have cp : con [p] = [a] := by rw [ha]; simp [con]
  have led : Eqv (m ++ [b] ++ [a]) ([p] ++ (a :: (m ++ [b])) ++ con [p]) := by
    rw [cp]
    have := eqv_r (m ++ [b] ++ [a]) pa
    simpa using this.symm
  obtain ⟨w, hw2, ew⟩ := hw.led led
  -- v p ~ y' p w
  have eu : Eqv (v ++ [p]) (y' ++ [p] ++ w) := by
    refine (eqv_r [p] ev).trans ?_
    have h1 := eqv_r [p] (eqv_l y' ew)
    refine h1.trans ?_
    rw [cp]
    have h2 := eqv_l (y' ++ [p] ++ w) ap
    simpa using h2
  rcases List.eq_nil_or_concat y' with z | ⟨y'', q, z⟩
  · subst z
    simp only [List.append_nil, List.nil_append] at e1 e2 eu
    refine ⟨[a], m ++ [b], con (a :: (m ++ [b])) ++ w, by simp, by rw [e2, ← e1], hw2.less, eu.trans ?_⟩
    -- p w ~ (m b) i^-1 w
    have h1 : Eqv ((m ++ [b]) ++ con (a :: (m ++ [b]))) [p] := by
      rw [con_cons, ← List.append_assoc]
      have := eqv_r [(a.1, -a.2)] (eqv_con (m ++ [b]))
      refine this.trans ?_
      rw [ha]
      simp
      exact .refl _
    have := (eqv_r w h1).symm
    simpa using this
  · rw [List.concat_eq_append] at z
    subst z
    have e1' : (m ++ [b]) ++ [a] = (x' ++ y'') ++ [q] := by rw [e1]; simp
    obtain ⟨e3, e4⟩ := List.append_inj' e1' rfl
    simp only [List.cons.injEq, and_true] at e4
    subst e4
    refine ⟨a :: x', y'', w, by rw [e3]; simp, by rw [e2]; simp, hw2, eu.trans ?_⟩
    have := eqv_r w (eqv_l y'' ap)
    simpa using this
theorem way_back {v m : List Pc} {a p : Pc} {j : List Pc} (h : Way v ([p] ++ (a :: m)) j) : Way (v ++ [p]) (a :: (m ++ [p])) j := by
  obtain ⟨x', y', w', e1, e2, hw, ev⟩ := h
  have led : Eqv ([p] ++ (a :: m)) ([p] ++ (a :: (m ++ [p])) ++ con [p]) := by
    have := eqv_l ([p] ++ (a :: m)) (eqv_one p)
    simpa using this.symm
  obtain ⟨w, hw2, ew⟩ := hw.led led
  have eu : Eqv (v ++ [p]) (y' ++ [p] ++ w) := by
    refine (eqv_r [p] ev).trans ?_
    have h1 := eqv_r [p] (eqv_l y' ew)
    refine h1.trans ?_
    have h2 := eqv_l (y' ++ [p] ++ w) (eqv_con' [p])
    simpa using h2
  cases x' with
  | nil =>
    simp only [List.nil_append, List.append_nil] at e1 e2
    refine ⟨a :: m, [p], (a :: (m ++ [p])) ++ w, by simp, by rw [e2, ← e1], hw2.more, eu.trans ?_⟩
    rw [← e1]
    have : Eqv ([p] ++ (a :: m) ++ [p] ++ w) ([p] ++ ((a :: (m ++ [p])) ++ w)) := by simp; exact .refl _
    exact this
  | cons q x'' =>
    simp only [List.cons_append, List.nil_append, List.cons.injEq] at e1
    obtain ⟨rfl, e1⟩ := e1
    refine ⟨x'', y' ++ [p], w, by rw [← List.append_assoc, ← e1]; simp, by rw [e2]; simp, hw2, by simpa using eu⟩
theorem conj_str : ∀ (n : Nat) (u i j : List Pc), u.length = n → Red u → Cyc i → 2 ≤ i.length → Cyc j → nf (u ++ i ++ con u) = j → Way u i j
  | 0, u, i, j, hn, _, hi, _, _, e => by
    have : u = [] := List.length_eq_zero_iff.mp hn
    subst this
    have e' : nf i = j := by simpa [con] using e
    rw [red_nf hi.1] at e'
    subst e'
    exact ⟨i, [], [], by simp, by simp, .one, .refl _⟩
  | n + 1, u, i, j, hn, hu, hi, hii, hj, e => by
    rcases List.eq_nil_or_concat u with z | ⟨v, p, z⟩
    · rw [z] at hn; simp at hn
    rw [List.concat_eq_append] at z
    subst z
    have hv : v.length = n := by simpa using hn
    have rv : Red v := red_part1 hu
    have p0 : p.2 ≠ 0 := red_part2 hu
    have ih := fun i' h1 h3 h2 => conj_str n v i' j hv rv h1 h3 hj h2
    have sp : v ++ [p] ++ i ++ con (v ++ [p]) = v ++ ([p] ++ i ++ [(p.1, -p.2)]) ++ con v := by rw [con_app]; simp [con]
    have whole : Red (v ++ [p] ++ i ++ con (v ++ [p])) → i ≠ [] → False := fun r _ => by
      rw [red_nf r] at e
      obtain ⟨a, b, h1, h2, h3⟩ := head_app (u := v) (p := p) (q := p) rfl
      rw [← e] at hj
      exact no_ends h1 h2 h3 hj
    rcases i with _ | ⟨a, i⟩
    · simp at hii
    rcases List.eq_nil_or_concat i with z | ⟨m, b, z⟩
    · subst z
      simp at hii
    · rw [List.concat_eq_append] at z
      subst z
      have hab : a.1 ≠ b.1 := hi.2 (by simp) a b rfl (by rw [← List.cons_append, List.getLast?_append]; rfl)
      by_cases ha : a.1 = p.1
      · by_cases hs : p.2 + a.2 = 0
        · have ea : a = (p.1, -p.2) := by
            obtain ⟨n2, t2⟩ := a
            simp at ha hs ⊢
            exact ⟨ha, by omega⟩
          have rt : Rot (a :: (m ++ [b])) (m ++ [b] ++ [a]) := ⟨[a], m ++ [b], rfl, rfl⟩
          refine way_front (p := p) (by rw [ea]) (ih _ (hi.rt rt) (by rw [rt.len]; exact hii) ?_)
          rw [sp] at e
          refine Eq.trans (nf_mid v (con v) ?_) e
          rw [ea]
          have : Eqv ([p] ++ [(p.1, -p.2)]) [] := eqv_one p
          have := (this.app (Eqv.refl (m ++ [b] ++ [(p.1, -p.2)]))).symm
          simpa using this
        · exfalso
          have w : Red ((v ++ [(p.1, p.2 + a.2)]) ++ (m ++ [b]) ++ con (v ++ [p])) := by
            refine red_join (red_join (red_end hu rfl hs) hi.1.tail fun s t h1 h2 => ?_) (con_red hu) fun s t h1 h2 => ?_
            · rw [List.getLast?_append] at h1
              simp only [List.getLast?_singleton, Option.some_or, Option.some.injEq] at h1
              subst h1
              simp only
              rw [← ha]
              exact red_meet (a := [a]) hi.1 rfl h2
            · rw [con_head] at h2
              rw [← List.append_assoc, List.getLast?_append] at h1
              simp only [List.getLast?_singleton, Option.some_or, Option.some.injEq] at h1 h2
              subst h1 h2
              simp only
              rw [← ha]
              exact hab.symm
          have e2 : nf (v ++ [p] ++ (a :: (m ++ [b])) ++ con (v ++ [p])) = nf ((v ++ [(p.1, p.2 + a.2)]) ++ (m ++ [b]) ++ con (v ++ [p])) := by
            have q : Eqv ([p] ++ [a]) [(p.1, p.2 + a.2)] := by
              intro w r
              obtain ⟨n1, t1⟩ := p
              obtain ⟨n2, t2⟩ := a
              simp only at ha
              subst ha
              simp only [List.cons_append, List.nil_append, act_cons, act_nil]
              rw [ps_ps r]
            have := nf_mid v (m ++ [b] ++ con (v ++ [p])) q
            simpa using this
          rw [e2, red_nf w] at e
          obtain ⟨c, d, h1, h2, h3⟩ := head_app (u := v) (p := ((p.1, p.2 + a.2) : Pc)) (q := p) rfl
          rw [← e] at hj
          exact no_ends h1 h2 h3 hj
      · by_cases hb : b.1 = p.1
        · by_cases hs : b.2 - p.2 = 0
          · have eb : b = p := by
              obtain ⟨n2, t2⟩ := b
              obtain ⟨n1, t1⟩ := p
              simp at hb hs ⊢
              exact ⟨hb, by omega⟩
            subst eb
            have rt : Rot (a :: (m ++ [b])) ([b] ++ (a :: m)) := ⟨a :: m, [b], by simp, rfl⟩
            refine way_back (ih _ (hi.rt rt) (by rw [rt.len]; exact hii) ?_)
            rw [sp] at e
            refine Eq.trans (nf_mid v (con v) ?_) e
            have : Eqv ([b] ++ [(b.1, -b.2)]) [] := eqv_one b
            have := ((Eqv.refl ([b] ++ (a :: m))).app this).symm
            simpa using this
          · exfalso
            have hu2 : Red (v ++ [((p.1, -(b.2 - p.2)) : Pc)]) := red_end hu rfl (by show -(b.2 - p.2) ≠ 0; omega)
            have ra : Red (a :: m) := red_part1 (a := a :: m) (b := [b]) (by simpa using hi.1)
            have w : Red ((v ++ [p]) ++ (a :: m) ++ con (v ++ [((p.1, -(b.2 - p.2)) : Pc)])) := by
              refine red_join (red_join hu ra fun s t h1 h2 => ?_) (con_red hu2) fun s t h1 h2 => ?_
              · simp at h1 h2
                subst h1 h2
                exact fun z => ha z.symm
              · rw [con_head] at h2
                simp only [Option.some.injEq] at h2
                subst h2
                simp only
                rw [← hb]
                refine red_meet (a := a :: m) (b := [b]) (by simpa using hi.1) ?_ rfl
                rw [List.getLast?_append] at h1
                simpa [List.getLast?_cons] using h1
            have e2 : nf (v ++ [p] ++ (a :: (m ++ [b])) ++ con (v ++ [p])) = nf ((v ++ [p]) ++ (a :: m) ++ con (v ++ [((p.1, -(b.2 - p.2)) : Pc)])) := by
              have q : Eqv ([b] ++ [(p.1, -p.2)]) [(p.1, b.2 - p.2)] := by
                intro w r
                obtain ⟨n1, t1⟩ := p
                obtain ⟨n2, t2⟩ := b
                simp only at hb
                subst hb
                simp only [List.cons_append, List.nil_append, act_cons, act_nil]
                rw [ps_ps r, show t2 + -t1 = t2 - t1 by omega]
              have := nf_mid (v ++ [p] ++ (a :: m)) (con v) q
              simpa [con, Int.neg_sub] using this
            rw [e2, red_nf w] at e
            obtain ⟨c, d, h1, h2, h3⟩ := head_app (u := v) (p := p) (q := ((p.1, -(b.2 - p.2)) : Pc)) rfl
            rw [← e] at hj
            exact no_ends h1 h2 h3 hj
        · refine (whole ?_ (by simp)).elim
          refine red_join (red_join hu hi.1 fun s t h1 h2 => ?_) (con_red hu) fun s t h1 h2 => ?_
          · simp at h1 h2
            subst h1 h2
            exact fun z => ha z.symm
          · rw [con_head] at h2
            have : s = b := by
              rw [List.getLast?_append, ← List.cons_append, List.getLast?_append] at h1
              simpa using h1.symm
            simp only [Option.some.injEq] at h2
            subst this h2
            exact hb
theorem least_nat {P : Nat → Prop} (h : ∃ n, P n) : ∃ n, P n ∧ ∀ m, m < n → ¬ P m := by
  obtain ⟨n, hn⟩ := h
  induction n using Nat.strongRecOn with
  | _ n ih =>
    by_cases h : ∃ m, m < n ∧ P m
    · obtain ⟨m, h1, h2⟩ := h
      exact ih m h1 h2
    · exact ⟨n, hn, fun m h1 h2 => h ⟨m, h1, h2⟩⟩
/-- i begun at k is i -/
def Inv (i : List Pc) (k : Nat) : Prop := i.drop k ++ i.take k = i
theorem inv_sub {i : List Pc} {k d : Nat} (hk : Inv i k) (hd : Inv i d) (h : d ≤ k) (hn : k ≤ i.length) : Inv i (k - d) := by
  unfold Inv at *
  obtain ⟨j, hj⟩ : ∃ j, i.drop (k - d) ++ i.take (k - d) = j := ⟨_, rfl⟩
  rw [hj]
  have jl : j.length = i.length := by rw [← hj]; simp; omega
  have e : j.drop d ++ j.take d = i.drop k ++ i.take k := by
    rw [← hj, List.drop_append_of_le_length (by simp; omega), List.take_append_of_le_length (by simp; omega), List.drop_drop, show k - d + d = k by omega, List.append_assoc]
    congr 1
    rw [show i.take k = i.take (k - d + d) by rw [show k - d + d = k by omega], List.take_add]
  rw [hk, ← hd] at e
  obtain ⟨e1, e2⟩ := List.append_inj e (by simp [jl])
  rw [← List.take_append_drop d j, e2, e1, List.take_append_drop]
theorem inv_mul {i : List Pc} {d : Nat} (d0 : 0 < d) (hd : Inv i d) (least : ∀ m, m < d → ¬ (0 < m ∧ Inv i m)) : ∀ k, k ≤ i.length → Inv i k → ∃ s, k = s * d := by
  intro k
  induction k using Nat.strongRecOn with
  | _ k ih =>
    intro hk hi
    rcases Nat.eq_zero_or_pos k with z | z
    · exact ⟨0, by omega⟩
    · rcases Nat.lt_or_ge k d with h | h
      · exact absurd ⟨z, hi⟩ (least k h)
      · obtain ⟨s, hs⟩ := ih (k - d) (by omega) (by omega) (inv_sub hi hd h hk)
        exact ⟨s + 1, by rw [Nat.succ_mul]; omega⟩
theorem comm_pw : ∀ (m : Nat) (x y : List Pc), x ++ y = y ++ x → x.length = m * y.length → x = pw m y
  | 0, x, y, _, h => by
    rw [Nat.zero_mul] at h
    rw [List.length_eq_zero_iff.mp h, pw_zero]
  | m + 1, x, y, e, h => by
    rw [Nat.succ_mul] at h
    have hx : x = y ++ x.drop y.length := by
      have := congrArg (List.take y.length) e
      rw [List.take_append_of_le_length (by omega), List.take_left] at this
      rw [← this, List.length_take, Nat.min_eq_left (by omega), List.take_append_drop]
    obtain ⟨x', hx'⟩ : ∃ x', x.drop y.length = x' := ⟨_, rfl⟩
    rw [hx'] at hx
    subst hx
    simp only [List.append_assoc] at e
    have e := List.append_cancel_left e
    rw [pw_succ, ← comm_pw m x' y e (by simp at h; omega)]
theorem per {i b x y : List Pc} {t : Nat} (h : IsRt i t) (e : i = pw t b) (i0 : i ≠ []) (e1 : i = x ++ y) (e2 : i = y ++ x) : ∃ s, y = pw s b := by
  have n0 : 0 < i.length := List.length_pos_iff.mpr i0
  have il : i.length = t * b.length := by rw [e, pw_len]
  have b0 : 0 < b.length := by
    rcases Nat.eq_zero_or_pos b.length with z | z
    · rw [z] at il; omega
    · exact z
  have t1 := h.2.1
  have bl : b.length ≤ i.length := by
    have : 1 * b.length ≤ t * b.length := Nat.mul_le_mul_right _ t1
    omega
  have invb : Inv i b.length := by
    obtain ⟨k, rfl⟩ : ∃ k, t = k + 1 := ⟨t - 1, by omega⟩
    unfold Inv
    conv => rhs; rw [e, pw_succ']
    rw [e, pw_succ, List.drop_left, List.take_left]
  have invy : Inv i y.length := by
    unfold Inv
    conv => rhs; rw [e1]
    rw [e2, List.drop_left, List.take_left]
  have invn : Inv i i.length := by simp [Inv]
  obtain ⟨d, ⟨d0, hd⟩, least⟩ := least_nat (P := fun m => 0 < m ∧ Inv i m) ⟨b.length, b0, invb⟩
  have mul := inv_mul d0 hd least
  have db : d ≤ b.length := by
    rcases Nat.lt_or_ge b.length d with z | z
    · exact absurd ⟨b0, invb⟩ (least _ z)
    · exact z
  obtain ⟨m, hm⟩ := mul i.length (Nat.le_refl _) invn
  have tl : (i.take d).length = d := by rw [List.length_take]; omega
  have hr : i = pw m (i.take d) := by
    match m, hm with
    | 0, hm => omega
    | m + 1, hm =>
      have c : i.drop d ++ i.take d = i.take d ++ i.drop d := by rw [hd, List.take_append_drop]
      have := comm_pw m (i.drop d) (i.take d) c (by rw [tl, List.length_drop, hm, Nat.succ_mul]; omega)
      rw [pw_succ, ← this, List.take_append_drop]
  have mt := h.2.2 m ⟨_, hr⟩
  have hdb : d = b.length := by
    have h1 : m * d ≤ t * d := Nat.mul_le_mul_right _ mt
    rw [← hm, il] at h1
    have := Nat.le_of_mul_le_mul_left h1 (by omega : 0 < t)
    omega
  obtain ⟨s, hs⟩ := mul y.length (by rw [e2]; simp) invy
  rw [hdb] at hs
  have st : s ≤ t := by
    have : s * b.length ≤ t * b.length := by rw [← hs, ← il, e2]; simp
    exact Nat.le_of_mul_le_mul_right this b0
  refine ⟨s, ?_⟩
  have e3 : y ++ x = pw s b ++ pw (t - s) b := by rw [← pw_add, show s + (t - s) = t by omega, ← e, e2]
  exact (List.append_inj e3 (by rw [hs, pw_len])).1
theorem InZ.ofPw {b w : List Pc} {t : Nat} (h : InZ (pw t b) w) : InZ b w := by
  obtain ⟨k, h | h⟩ := h
  · exact ⟨k * t, .inl (by rw [← pw_pw]; exact h)⟩
  · exact ⟨k * t, .inr (by rw [← pw_pw]; exact h)⟩
theorem InZ.front {b w : List Pc} (h : InZ b w) : ∀ s : Nat, InZ b (pw s b ++ w)
  | 0 => h
  | s + 1 => by rw [pw_succ, List.append_assoc]; exact (h.front s).more
theorem cent_many {i b u : List Pc} {t : Nat} (hi : Cyc i) (h2 : 2 ≤ i.length) (r : IsRt i t) (e : i = pw t b) (hu : nf (u ++ i ++ con u) = i) : InZ b u := by
  obtain ⟨x, y, w, e1, e2, hw, ev⟩ := conj_str (nf u).length (nf u) i i rfl (nf_red u) hi h2 hi (by rw [nf_led]; exact hu)
  obtain ⟨s, rfl⟩ := per r e (fun z => by rw [z] at h2; simp at h2) e1 e2
  rw [e] at hw
  exact (hw.ofPw.front s).congr ((eqv_nf u).trans ev)
theorem cent_one {n : Str} {v : Int} (v0 : v ≠ 0) : ∀ (k : Nat) (u : List Pc), u.length = k → Red u → nf (u ++ [(n, v)] ++ con u) = [(n, v)] → u = [] ∨ ∃ w, u = [(n, w)]
  | 0, u, h, _, _ => .inl (List.length_eq_zero_iff.mp h)
  | k + 1, u, h, hu, e => by
    rcases List.eq_nil_or_concat u with z | ⟨v', p, z⟩
    · exact .inl z
    rw [List.concat_eq_append] at z
    subst z
    have sp : v' ++ [p] ++ [(n, v)] ++ con (v' ++ [p]) = v' ++ ([p] ++ [(n, v)] ++ [(p.1, -p.2)]) ++ con v' := by rw [con_app]; simp [con]
    by_cases ha : n = p.1
    · have e' : nf (v' ++ [(n, v)] ++ con v') = [(n, v)] := by
        rw [sp] at e
        refine Eq.trans (nf_mid v' (con v') ?_) e
        intro w r
        obtain ⟨n1, t1⟩ := p
        simp only at ha
        subst ha
        simp only [List.cons_append, List.nil_append, act_cons, act_nil]
        rw [ps_ps r, ps_ps r, show t1 + (v + -t1) = v by omega]
      rcases cent_one v0 k v' (by simpa using h) (red_part1 hu) e' with z | ⟨w, z⟩
      · subst z
        exact .inr ⟨p.2, by rw [ha]; rfl⟩
      · subst z
        have := Red.ne (p := (n, w)) (q := p) (r := []) hu
        exact absurd ha this
    · exfalso
      have w : Red (v' ++ [p] ++ [(n, v)] ++ con (v' ++ [p])) := by
        refine red_join (red_join hu (show Red [(n, v)] from v0) fun s t h1 h2 => ?_) (con_red hu) fun s t h1 h2 => ?_
        · simp at h1 h2
          subst h1 h2
          exact fun z => ha z.symm
        · rw [con_head] at h2
          simp at h1 h2
          subst h1 h2
          exact ha
      rw [red_nf w] at e
      have := congrArg List.length e
      simp [con_len] at this
      omega
def PrimOf (i b : List Pc) (t : Nat) : Prop := (∃ n v s, v ≠ 0 ∧ i = [(n, v)] ∧ b = [(n, s)] ∧ t = v.natAbs ∧ s * (v.natAbs : Int) = v) ∨ (2 ≤ i.length ∧ IsRt i t ∧ i = pw t b)
theorem unit_of {v s : Int} (v0 : v ≠ 0) (hs : s * (v.natAbs : Int) = v) : s = 1 ∨ s = -1 := by
  have := congrArg Int.natAbs hs
  rw [Int.natAbs_mul, Int.natAbs_natCast] at this
  have h1 : s.natAbs = 1 := Nat.eq_of_mul_eq_mul_right (by omega : 0 < v.natAbs) (by rw [this, Nat.one_mul])
  omega
theorem cent {i b u : List Pc} {t : Nat} (hi : Cyc i) (p : PrimOf i b t) (h : nf (u ++ i ++ con u) = nf i) : InZ b u := by
  rw [red_nf hi.1] at h
  rcases p with ⟨n, v, s, v0, rfl, rfl, rfl, hs⟩ | ⟨h2, r, e⟩
  · have h' : nf (nf u ++ [(n, v)] ++ con (nf u)) = [(n, v)] := by rw [nf_led]; exact h
    refine InZ.congr ?_ (eqv_nf u)
    rcases cent_one v0 _ (nf u) rfl (nf_red u) h' with z | ⟨w, z⟩
    · rw [z]; exact .one
    · rw [z]
      have hp := eqv_pw1 n s w.natAbs
      rcases unit_of v0 hs with rfl | rfl
      · by_cases hw : w < 0
        · refine ⟨w.natAbs, .inr ?_⟩
          have := eqv_con_congr hp
          rw [show con [(n, 1 * (w.natAbs : Int))] = [(n, w)] by simp [con]; omega] at this
          exact this.symm
        · refine ⟨w.natAbs, .inl ?_⟩
          rw [show (1 * (w.natAbs : Int)) = w by omega] at hp
          exact hp.symm
      · by_cases hw : w < 0
        · refine ⟨w.natAbs, .inl ?_⟩
          rw [show (-1 * (w.natAbs : Int)) = w by omega] at hp
          exact hp.symm
        · refine ⟨w.natAbs, .inr ?_⟩
          have := eqv_con_congr hp
          rw [show con [(n, -1 * (w.natAbs : Int))] = [(n, w)] by simp [con]; omega] at this
          exact this.symm
  · exact cent_many hi h2 r e h
def RootX (c g : List Pc) (t : Nat) : Prop := ∃ o i b, Cyc i ∧ nf (o ++ i ++ con o) = nf c ∧ PrimOf i b t ∧ g = nf (o ++ b ++ con o)
theorem RootX.cent {c g d : List Pc} {t : Nat} (h : RootX c g t) (e : nf (c ++ d) = nf (d ++ c)) : InZ g d := by
  obtain ⟨o, i, b, hi, ho, hp, rfl⟩ := h
  have E1 : Eqv (o ++ i ++ con o) c := eqv_iff'.mpr ho
  have E2 : Eqv (c ++ d) (d ++ c) := eqv_iff'.mpr e
  have cu : con (con o ++ d ++ o) = con o ++ con d ++ o := by rw [con_app, con_app, con_con, List.append_assoc]
  have hu : nf ((con o ++ d ++ o) ++ i ++ con (con o ++ d ++ o)) = nf i := by
    rw [cu]
    have s1 := nf_mid (con o ++ d) (con d ++ o) E1
    have s2 := nf_mid (con o) (con d ++ o) E2
    have s3 := nf_mid (con o ++ c) o (eqv_con d)
    have s4 := nf_mid (con o) o E1
    have s5 := nf_mid [] (i ++ con o ++ o) (eqv_con' o)
    have s6 := nf_mid i [] (eqv_con' o)
    simp only [List.append_assoc, List.nil_append, List.append_nil] at s1 s2 s3 s4 s5 s6 ⊢
    rw [s1, ← s2, s3, ← s4, s5, s6]
  have z := (NL.cent hi hp hu).lead (a := o)
  refine (z.base (eqv_nf _)).congr ?_
  have s1 := nf_mid [] (d ++ o ++ con o) (eqv_con o)
  have s2 := nf_mid d [] (eqv_con o)
  simp only [List.append_assoc, List.nil_append, List.append_nil] at s1 s2
  exact eqv_iff'.mpr (by simp only [List.append_assoc]; rw [s1, s2])
def Cm (a b : List Pc) : Prop := Eqv (a ++ b) (b ++ a)
theorem Cm.symm {a b : List Pc} (h : Cm a b) : Cm b a := Eqv.symm h
theorem Cm.congr {a b d : List Pc} (h : Cm a b) (e : Eqv d b) : Cm a d := ((eqv_l a e).trans h).trans (eqv_r a e.symm)
theorem Cm.nil (a : List Pc) : Cm a [] := by unfold Cm; simp; exact .refl _
theorem Cm.app {a b d : List Pc} (h : Cm a b) (g : Cm a d) : Cm a (b ++ d) := by
  have h1 := eqv_r d h
  have h2 := eqv_l b g
  unfold Cm
  simp only [List.append_assoc] at h1 h2 ⊢
  exact h1.trans h2
theorem Cm.con {a b : List Pc} (h : Cm a b) : Cm a (con b) := by
  have s1 := eqv_l (NL.con b) (eqv_r (NL.con b) h)
  have s2 := eqv_l (NL.con b ++ a) (eqv_con b)
  have s3 := eqv_r (a ++ NL.con b) (eqv_con' b)
  unfold Cm
  simp only [List.append_assoc, List.nil_append, List.append_nil] at s1 s2 s3 ⊢
  exact (s3.symm.trans s1.symm).trans s2
theorem Cm.pw {a b : List Pc} (h : Cm a b) : ∀ t, Cm a (pw t b)
  | 0 => .nil a
  | t + 1 => by rw [pw_succ]; exact h.app (h.pw t)
theorem Cm.inz {a g d : List Pc} (h : Cm a g) (z : InZ g d) : Cm a d := by
  obtain ⟨t, z | z⟩ := z
  · exact (h.pw t).congr z
  · exact (h.pw t).con.congr z
theorem InZ.comm {g c d : List Pc} (h : InZ g c) (k : InZ g d) : nf (c ++ d) = nf (d ++ c) :=
  (((show Cm g g from .refl _).inz h).symm.inz k).nf
theorem InZ.self (g : List Pc) : InZ g g := ⟨1, .inl (by rw [pw_one]; exact .refl _)⟩
theorem con_pw (b : List Pc) : ∀ t, con (pw t b) = pw t (con b)
  | 0 => rfl
  | t + 1 => by rw [pw_succ', con_app, con_pw b t, pw_succ]
theorem Cyc.con {b : List Pc} (h : Cyc b) : Cyc (con b) := by
  refine ⟨con_red h.1, fun h2 p q hp hq => ?_⟩
  rw [con_len] at h2
  unfold NL.con at hp hq
  rw [List.head?_map, List.head?_reverse] at hp
  rw [List.getLast?_map, List.getLast?_reverse] at hq
  cases h1 : b.getLast? with
  | none => rw [h1] at hp; cases hp
  | some z =>
    cases h3 : b.head? with
    | none => rw [h3] at hq; cases hq
    | some y =>
      rw [h1] at hp; rw [h3] at hq
      cases hp; cases hq
      exact (h.2 h2 y z h3 h1).symm
theorem red_pw {b : List Pc} (h : Cyc b) (h2 : 2 ≤ b.length) : ∀ m, Red (pw m b)
  | 0 => trivial
  | m + 1 => by
    rw [pw_succ]
    refine red_join h.1 (red_pw h h2 m) fun p q hp hq => ?_
    match m, hq with
    | 0, hq => rw [pw_zero] at hq; cases hq
    | m + 1, hq =>
      rw [pw_succ, List.head?_append] at hq
      cases hb : b.head? with
      | none => rw [List.head?_eq_none_iff] at hb; rw [hb] at h2; simp at h2
      | some z =>
        rw [hb] at hq
        cases hq
        exact (h.2 h2 _ p hb hp).symm
theorem pw_cyc {b : List Pc} {m : Nat} (h : Cyc b) (h2 : 2 ≤ b.length) (hm : 1 ≤ m) : Cyc (pw m b) := by
  obtain ⟨k, rfl⟩ : ∃ k, m = k + 1 := ⟨m - 1, by omega⟩
  refine ⟨red_pw h h2 _, fun _ p q hp hq => ?_⟩
  have b0 : b ≠ [] := fun z => by rw [z] at h2; simp at h2
  rw [pw_succ, List.head?_append] at hp
  rw [pw_succ', List.getLast?_append] at hq
  cases h1 : b.head? with
  | none => exact absurd (List.head?_eq_none_iff.mp h1) b0
  | some y =>
    cases h3 : b.getLast? with
    | none => exact absurd (List.getLast?_eq_none_iff.mp h3) b0
    | some z =>
      rw [h1] at hp; rw [h3] at hq
      cases hp; cases hq
      exact h.2 h2 _ _ h1 h3
theorem prim_pow {b g o : List Pc} {m : Nat} (cb : Cyc b) (hb : 2 ≤ b.length ∨ ∃ n s, b = [(n, s)] ∧ (s = 1 ∨ s = -1)) (hm : 1 ≤ m) (e : nf g = nf (o ++ pw m b ++ con o)) (h : Oft g 1) : m = 1 := by
  obtain ⟨i, i1, i2, i3⟩ := h
  rcases hb with b2 | ⟨n, s, rfl, hs⟩
  · have r := conj_rot i1 (pw_cyc cb b2 hm) (i2.trans (Cj.symm ⟨o, e.symm⟩))
    have hl := r.len
    rw [pw_len] at hl
    have : 1 * 2 ≤ m * b.length := Nat.mul_le_mul hm b2
    rcases i3 with ⟨n, v, rfl, _⟩ | ⟨_, i3⟩
    · simp at hl; omega
    · have := i3.2.2 m (Rk.rot ⟨b, rfl⟩ r.symm)
      omega
  · have e' : nf g = nf (o ++ [(n, s * (m : Int))] ++ con o) := by rw [e]; exact nf_mid o (con o) (eqv_pw1 n s m)
    have sm : s * (m : Int) ≠ 0 := Int.mul_ne_zero (by omega) (by omega)
    have r := conj_rot i1 (show Cyc [(n, s * (m : Int))] from ⟨sm, fun h => by simp at h⟩) (i2.trans (Cj.symm ⟨o, e'.symm⟩))
    have := rot_single r.symm
    subst this
    rcases i3 with ⟨n', v, e1, e2⟩ | ⟨h2, _⟩
    · simp only [List.cons.injEq, Prod.mk.injEq, and_true] at e1
      rw [← e1.2] at e2
      rcases hs with rfl | rfl <;> omega
    · simp at h2
theorem PrimOf.base {i b : List Pc} {t : Nat} (h : PrimOf i b t) (hi : Cyc i) : Cyc b ∧ (2 ≤ b.length ∨ ∃ n s, b = [(n, s)] ∧ (s = 1 ∨ s = -1)) := by
  rcases h with ⟨n, v, s, v0, rfl, rfl, rfl, hs⟩ | ⟨h2, r, e⟩
  · have := unit_of v0 hs
    exact ⟨⟨show s ≠ 0 by omega, fun h => by simp at h⟩, .inr ⟨n, s, rfl, this⟩⟩
  · exact ⟨cyc_pw r.2.1 (e ▸ hi) (e ▸ h2), .inl (pw_red2 r.2.1 (e ▸ hi.1) (e ▸ h2))⟩
theorem RootX.pow {c g : List Pc} {t : Nat} (h : RootX c g t) : Eqv (pw t g) c := by
  obtain ⟨o, i, b, hi, ho, hp, rfl⟩ := h
  refine ((pw_congr (eqv_nf (o ++ b ++ con o)) t).symm.trans (eqv_pw o b t).symm).trans (Eqv.trans ?_ (eqv_iff'.mpr ho))
  refine eqv_r (con o) (eqv_l o ?_)
  rcases hp with ⟨n, v, s, v0, rfl, rfl, rfl, hs⟩ | ⟨h2, r, e⟩
  · have := eqv_pw1 n s v.natAbs
    rw [hs] at this
    exact this
  · rw [← e]; exact .refl _
theorem com_root {c d g k : List Pc} {s t : Nat} (h1 : RootX c g s) (h2 : RootX d k t) (g0 : g ≠ []) (rg : Red g) (own : Oft g 1) (e : nf (c ++ d) = nf (d ++ c)) : k = g ∨ k = con g := by
  have z1 : InZ g d := h1.cent e
  have z2 : InZ k g := h2.cent (z1.comm (.self g))
  obtain ⟨o, i, b, hi, ho, hp, rfl⟩ := h2
  obtain ⟨cb, hb⟩ := hp.base hi
  obtain ⟨m, z | z⟩ := z2
  · have e2 : nf g = nf (o ++ pw m b ++ con o) := (z.trans ((pw_congr (eqv_nf _) m).symm.trans (eqv_pw o b m).symm)).nf
    rcases Nat.eq_zero_or_pos m with m0 | m0
    · subst m0
      rw [pw_zero, List.append_nil, nf_con, red_nf rg] at e2
      exact absurd e2 g0
    · have := prim_pow cb hb m0 e2 own
      subst this
      rw [pw_one, red_nf rg] at e2
      exact .inl e2.symm
  · have e2 : nf g = nf (o ++ pw m (con b) ++ con o) := by
      have := eqv_con_congr ((pw_congr (eqv_nf (o ++ b ++ con o)) m).symm.trans (eqv_pw o b m).symm)
      rw [con_led] at this
      rw [← con_pw]
      exact (z.trans this).nf
    rcases Nat.eq_zero_or_pos m with m0 | m0
    · subst m0
      rw [pw_zero, List.append_nil, nf_con, red_nf rg] at e2
      exact absurd e2 g0
    · have hb' : 2 ≤ (con b).length ∨ ∃ n s, con b = [(n, s)] ∧ (s = 1 ∨ s = -1) := by
        rcases hb with hb | ⟨n, s, rfl, hs⟩
        · exact .inl (by rw [con_len]; exact hb)
        · exact .inr ⟨n, -s, rfl, by omega⟩
      have := prim_pow cb.con hb' m0 e2 own
      subst this
      rw [pw_one, ← con_led, nf_con_nf, red_nf rg] at e2
      exact .inr (by rw [e2, con_con])
theorem root_com {c d g k : List Pc} {s t : Nat} (h1 : RootX c g s) (h2 : RootX d k t) (h : k = g ∨ k = con g) : nf (c ++ d) = nf (d ++ c) := by
  have z1 : InZ g c := ⟨s, .inl h1.pow.symm⟩
  refine z1.comm ?_
  rcases h with rfl | rfl
  · exact ⟨t, .inl h2.pow.symm⟩
  · refine ⟨t, .inr ?_⟩
    rw [con_pw]
    exact h2.pow.symm
end NL

namespace NL
open PySem PySem.Spec L2
open PyProof.Rows hiding St
local macro_rules | `(tactic| walk_at "s") => `(tactic| try simp only [wVar, wOwn, wC, wOp, onBl, wtOn, wChain, trD, wtVal, wtNot, wAnd, wOr, wAndV, wOrV, wNotV, wIf, wNil, wCons, wTup, wLst, wUn, wNew, gAdd, gInt, gInt0, gMul, gCatF, gRepF, wOpF, gEq, gCmp, gInS, gIsN, isN, gIsB, gIdx, woNone, woSome, gSl, wSl, gSlF, wSlF, wB, wBF, gLen, gInt1, gInt2, gToInt, gListF, tyName, gIsT, wIsT, wCall, Rt.d, Cn.d, onNew, wCallF, wCallN, wCallNF, nlR, wgName, wgNil, wgCons, wgTup, wSeq, wSeqT, wSigns, wRng1, wRng2, wRng3, wRev, wEnum, wZip, wLc, wtYes, wsNil, wsBrk, wsCnt, wsExpr, wsRet, wsRetF, wsRetOwn, wsRetN, wIfS, wsSet, wsSetF, wsAsg, wsPar, wsAug, gApp, gExt, gPop0, gRev, wMut, wsSetIx, wFor, wsRaise, wSeqS, wFrz, wsCallM, wsPopAdd, endsOf, endM, endsM, startM, startE, wipeE, smallI, CPow, Br_true, Br_false, Br_not, rngD_eq, dC, dP, dI, ex_atI_map, atI0, atI1, atI2, kit1, kit2, kit3, kit4, kit5, kit6, kit7, kit8, kit9, kit10, kit11, kit12, kit13, kit14, kit15, kit16, kit17, kit18, kit19, kit20, kit21, kit22, kit23, kit24, kit25, kit26, kit27, kit28, kit29, kit30, kit31, kit32, kit33, kit34, kit35, sizeLine_eq, true_and, and_true, exists_eq_left', Option.some.injEq, List.map_cons, List.map_nil, List.length_cons, List.length_nil, List.length_map, List.length_append, List.cons_append, List.nil_append, List.set_cons_zero, List.set_cons_succ, List.getElem?_cons_zero, List.getElem?_cons_succ, List.getElem?_nil, Nat.reduceSub, Nat.reduceAdd, Nat.zero_add, Nat.sub_self, List.replicate_succ, List.replicate_zero, Bool.false_bne, Bool.true_bne, Bool.false_xor, Bool.true_xor, Bool.not_true, Bool.not_false, Bool.not_not, beq_self_eq_true, Bool.and_true, Bool.true_and, nl, nls, decide_true, decide_false, exists_eq_left, Bool.false_eq_true, Option.some_inj, Int.reduceToNat, Int.reducePow, Int.reduceMul, Int.reduceSub, Int.reduceAdd, Int.reduceNeg, Nat.reducePow, Nat.reduceLeDiff, Int.reduceLE, Int.reduceLT, Int.reduceAbs, Int.natAbs_neg, Nat.reduceLT, divW_eq, mulW_eq, Bool.or_true, Bool.true_or, cut_map, ← List.map_append, ← List.map_reverse, castN, eq_self, Int.reduceEq, deqC, deq_self, rep_map, nls_dP, wsAugIx, tx_cps, tx_len, tx_app, tx_one, tx_nil, tx_cut, tx_signs, tx_rep, lit_empty, tx_inj, wJoin, gJoin, wmCall, wmOpL, wmOpR, wmIxR, wmTup2, wsSetM, wsAppM, wForM, gSum, gAny, gAll, gLtD, gInT, gSorted, gAddT, wThaw, gMaxL, wsRetT, wsRetTF, wmApp, mutW, wNIf, wNIfM, wsNo, nestQ, wNest, isL, wsSetV])
def SP_law_nails : Spec := fun ds _ R => ∃ cell : Int, ds = [.int cell] ∧ ∀ l : List Nat, 1 ≤ l.length → l.length ≤ 26 → Lt l → R (.val (.str (tx l)))
theorem len_law_nails (ds : List D) (x : XS) (R : Rt → Prop) (h : SP_law_nails ds x R) : ds.length = ["_law_cell"].length := by
  obtain ⟨c, rfl, _⟩ := h; rfl
def W_law_nails : WS :=
  (wSeqS (wsSet 1 (wC (.str "abcdefghijklmnopqrstuvwxyz")))
  (wSeqS (wsSet 2 (wOp gIdx (wNew (wLst (wCons (wC (.int 2)) (wCons (wC (.int 3)) (wCons (wC (.int 2)) (wCons (wC (.int 26)) (wCons (wC (.int 5)) (wCons (wC (.int 1)) wNil)))))))) (wOp (gInt (fun _ j => 0 < j) fun i j => i % j) (wVar 0) (wC (.int 6)))))
  (wSeqS (wsSet 3 (wOp (gInt (fun _ j => 0 < j) fun i j => i % j) (wOp (gInt CDivW fun i j => i / j) (wVar 0) (wC (.int 6))) (wC (.int 26))))
  (wsRet (wSl (wOp gAdd (wVar 1) (wVar 1)) (woSome (wVar 3)) (woSome (wOp gAdd (wVar 3) (wVar 2))))))))
theorem pure_law_nails (ds : List D) (x : XS) (R : Rt → Prop) (h : SP_law_nails ds x R) : W_law_nails (endsOf R x) (startE 4 ds) := by
  obtain ⟨cell, rfl, q⟩ := h
  simp only [W_law_nails, wVar, wOwn, wC, wOp, onBl, wtOn, wChain, trD, wtVal, wtNot, wAnd, wOr, wAndV, wOrV, wNotV, wIf, wNil, wCons, wTup, wLst, wUn, wNew, gAdd, gInt, gInt0, gMul, gCatF, gRepF, wOpF, gEq, gCmp, gInS, gIsN, isN, gIsB, gIdx, woNone, woSome, gSl, wSl, gSlF, wSlF, wB, wBF, gLen, gInt1, gInt2, gToInt, gListF, tyName, gIsT, wIsT, wCall, Rt.d, Cn.d, onNew, wCallF, wCallN, wCallNF, nlR, wgName, wgNil, wgCons, wgTup, wSeq, wSeqT, wSigns, wRng1, wRng2, wRng3, wRev, wEnum, wZip, wLc, wtYes, wsNil, wsBrk, wsCnt, wsExpr, wsRet, wsRetF, wsRetOwn, wsRetN, wIfS, wsSet, wsSetF, wsAsg, wsPar, wsAug, gApp, gExt, gPop0, gRev, wMut, wsSetIx, wFor, wsRaise, wSeqS, wFrz, wsCallM, wsPopAdd, endsOf, endM, endsM, startM, startE, wipeE, smallI, CPow, Br_true, Br_false, Br_not, rngD_eq, dC, dP, dI, ex_atI_map, atI0, atI1, atI2, kit1, kit2, kit3, kit4, kit5, kit6, kit7, kit8, kit9, kit10, kit11, kit12, kit13, kit14, kit15, kit16, kit17, kit18, kit19, kit20, kit21, kit22, kit23, kit24, kit25, kit26, kit27, kit28, kit29, kit30, kit31, kit32, kit33, kit34, kit35, sizeLine_eq, true_and, and_true, exists_eq_left', Option.some.injEq, List.map_cons, List.map_nil, List.length_cons, List.length_nil, List.length_map, List.length_append, List.cons_append, List.nil_append, List.set_cons_zero, List.set_cons_succ, List.getElem?_cons_zero, List.getElem?_cons_succ, List.getElem?_nil, Nat.reduceSub, Nat.reduceAdd, Nat.zero_add, Nat.sub_self, List.replicate_succ, List.replicate_zero, Bool.false_bne, Bool.true_bne, Bool.false_xor, Bool.true_xor, Bool.not_true, Bool.not_false, Bool.not_not, beq_self_eq_true, Bool.and_true, Bool.true_and, nl, nls, decide_true, decide_false, exists_eq_left, Bool.false_eq_true, Option.some_inj, Int.reduceToNat, Int.reducePow, Int.reduceMul, Int.reduceSub, Int.reduceAdd, Int.reduceNeg, Nat.reducePow, Nat.reduceLeDiff, Int.reduceLE, Int.reduceLT, Int.reduceAbs, Int.natAbs_neg, Nat.reduceLT, divW_eq, mulW_eq, Bool.or_true, Bool.true_or, cut_map, ← List.map_append, ← List.map_reverse, castN, eq_self, Int.reduceEq, deqC, deq_self, rep_map, nls_dP, wsAugIx, tx_cps, tx_len, tx_app, tx_one, tx_nil, tx_cut, tx_signs, tx_rep, lit_empty, tx_inj, wJoin, gJoin, wmCall, wmOpL, wmOpR, wmIxR, wmTup2, wsSetM, wsAppM, wForM, gSum, gAny, gAll, gLtD, gInT, gSorted, gAddT, wThaw, gMaxL, wsRetT, wsRetTF, wmApp, mutW, wNIf, wNIfM, wsNo, nestQ, wNest, isL, wsSetV]
  obtain ⟨d, e, m⟩ := atI_in (xs := [D.int 2, D.int 3, D.int 2, D.int 26, D.int 5, D.int 1]) (i := cell % 6) (by omega) (by simp; omega)
  have z1 := az_sz
  have zl : (Str.ofString "abcdefghijklmnopqrstuvwxyz").length = 26 := az_len
  have key : ∀ j : Int, 1 ≤ j → j ≤ 26 → R (.val (.str (cutS (Str.ofString "abcdefghijklmnopqrstuvwxyz" ++ Str.ofString "abcdefghijklmnopqrstuvwxyz") (some (cell / 6 % 26)) (some (cell / 6 % 26 + j))))) := fun j j0 j1 => by
    rw [tx_of (Str.ofString "abcdefghijklmnopqrstuvwxyz"), tx_app, tx_cut, cut_fromTo (by omega) (by omega)]
    have ln : ((Str.ofString "abcdefghijklmnopqrstuvwxyz").cps.toList ++ (Str.ofString "abcdefghijklmnopqrstuvwxyz").cps.toList).length = 52 := by rw [List.length_append, az_len]
    refine q _ ?_ ?_ fun x hx => ?_
    · rw [List.length_drop, List.length_take, ln]; omega
    · rw [List.length_drop, List.length_take, ln]; omega
    · have := List.mem_of_mem_take (List.mem_of_mem_drop hx)
      rcases List.mem_append.mp this with z | z <;> exact az_ok x z
  refine ⟨d, e, by omega, ?_⟩
  simp only [List.mem_cons, List.not_mem_nil, or_false] at m
  have zz : (Str.ofString "abcdefghijklmnopqrstuvwxyz" ++ Str.ofString "abcdefghijklmnopqrstuvwxyz").length ≤ 16777216 := by
    rw [tx_of (Str.ofString "abcdefghijklmnopqrstuvwxyz"), tx_app, tx_len, List.length_append, az_len]
    decide
  rcases m with rfl | rfl | rfl | rfl | rfl | rfl <;> exact ⟨zz, key _ (by decide) (by decide)⟩
def SP_law_at : Spec := fun ds _ R => ∃ ns k, ds = [.scr ns, .int k] ∧ 0 ≤ k ∧ R (.val (.int (ns.getD k.toNat 0)))
theorem len_law_at (ds : List D) (x : XS) (R : Rt → Prop) (h : SP_law_at ds x R) : ds.length = ["_law_script", "_law_k"].length := by
  obtain ⟨ns, k, rfl, _⟩ := h; rfl
def W_law_at : WS :=
  (wSeqS (wIfS (wtOn (wOp (gCmp fun i j => decide (i < j)) (wVar 1) (wB gLen (wCons (wVar 0) wNil))))
  (wsRet (wOp gIdx (wVar 0) (wVar 1)))
  wsNil)
  (wsRet (wC (.int 0))))
theorem pure_law_at (ds : List D) (x : XS) (R : Rt → Prop) (h : SP_law_at ds x R) : W_law_at (endsOf R x) (startE 2 ds) := by
  obtain ⟨ns, k, rfl, hk, q⟩ := h
  simp only [W_law_at, wVar, wOwn, wC, wOp, onBl, wtOn, wChain, trD, wtVal, wtNot, wAnd, wOr, wAndV, wOrV, wNotV, wIf, wNil, wCons, wTup, wLst, wUn, wNew, gAdd, gInt, gInt0, gMul, gCatF, gRepF, wOpF, gEq, gCmp, gInS, gIsN, isN, gIsB, gIdx, woNone, woSome, gSl, wSl, gSlF, wSlF, wB, wBF, gLen, gInt1, gInt2, gToInt, gListF, tyName, gIsT, wIsT, wCall, Rt.d, Cn.d, onNew, wCallF, wCallN, wCallNF, nlR, wgName, wgNil, wgCons, wgTup, wSeq, wSeqT, wSigns, wRng1, wRng2, wRng3, wRev, wEnum, wZip, wLc, wtYes, wsNil, wsBrk, wsCnt, wsExpr, wsRet, wsRetF, wsRetOwn, wsRetN, wIfS, wsSet, wsSetF, wsAsg, wsPar, wsAug, gApp, gExt, gPop0, gRev, wMut, wsSetIx, wFor, wsRaise, wSeqS, wFrz, wsCallM, wsPopAdd, endsOf, endM, endsM, startM, startE, wipeE, smallI, CPow, Br_true, Br_false, Br_not, rngD_eq, dC, dP, dI, ex_atI_map, atI0, atI1, atI2, kit1, kit2, kit3, kit4, kit5, kit6, kit7, kit8, kit9, kit10, kit11, kit12, kit13, kit14, kit15, kit16, kit17, kit18, kit19, kit20, kit21, kit22, kit23, kit24, kit25, kit26, kit27, kit28, kit29, kit30, kit31, kit32, kit33, kit34, kit35, sizeLine_eq, true_and, and_true, exists_eq_left', Option.some.injEq, List.map_cons, List.map_nil, List.length_cons, List.length_nil, List.length_map, List.length_append, List.cons_append, List.nil_append, List.set_cons_zero, List.set_cons_succ, List.getElem?_cons_zero, List.getElem?_cons_succ, List.getElem?_nil, Nat.reduceSub, Nat.reduceAdd, Nat.zero_add, Nat.sub_self, List.replicate_succ, List.replicate_zero, Bool.false_bne, Bool.true_bne, Bool.false_xor, Bool.true_xor, Bool.not_true, Bool.not_false, Bool.not_not, beq_self_eq_true, Bool.and_true, Bool.true_and, nl, nls, decide_true, decide_false, exists_eq_left, Bool.false_eq_true, Option.some_inj, Int.reduceToNat, Int.reducePow, Int.reduceMul, Int.reduceSub, Int.reduceAdd, Int.reduceNeg, Nat.reducePow, Nat.reduceLeDiff, Int.reduceLE, Int.reduceLT, Int.reduceAbs, Int.natAbs_neg, Nat.reduceLT, divW_eq, mulW_eq, Bool.or_true, Bool.true_or, cut_map, ← List.map_append, ← List.map_reverse, castN, eq_self, Int.reduceEq, deqC, deq_self, rep_map, nls_dP, wsAugIx, tx_cps, tx_len, tx_app, tx_one, tx_nil, tx_cut, tx_signs, tx_rep, lit_empty, tx_inj, wJoin, gJoin, wmCall, wmOpL, wmOpR, wmIxR, wmTup2, wsSetM, wsAppM, wForM, gSum, gAny, gAll, gLtD, gInT, gSorted, gAddT, wThaw, gMaxL, wsRetT, wsRetTF, wmApp, mutW, wNIf, wNIfM, wsNo, nestQ, wNest, isL, wsSetV]
  refine Br.d (fun h => ?_) (fun h => ?_)
  · walk_at "s"
    refine ⟨_, atI_at (j := k.toNat) (by omega) (by omega), ?_⟩
    rwa [List.getD_eq_getElem?_getD, List.getElem?_eq_getElem (by omega)] at q
  · walk_at "s"
    rwa [List.getD_eq_getElem?_getD, List.getElem?_eq_none (by omega)] at q
def SP_law_wide : Spec := fun ds _ R => ∃ cell : Int, ds = [.int cell] ∧ ∀ w : Int, 1 ≤ w → w ≤ 999999999999999999999999999999 → R (.val (.int w))
theorem len_law_wide (ds : List D) (x : XS) (R : Rt → Prop) (h : SP_law_wide ds x R) : ds.length = ["_law_cell"].length := by
  obtain ⟨c, rfl, _⟩ := h; rfl
def W_law_wide : WS :=
  (wsRet (wOp gIdx (wNew (wLst (wCons (wC (.int 1)) (wCons (wC (.int 2)) (wCons (wC (.int 3)) (wCons (wOp (gInt0 fun i j => i - j) (wOp (gInt CPow fun i j => i ^ j.toNat) (wC (.int 10)) (wC (.int 30))) (wC (.int 1))) wNil)))))) (wOp (gInt (fun _ j => 0 < j) fun i j => i % j) (wVar 0) (wC (.int 4)))))
theorem pure_law_wide (ds : List D) (x : XS) (R : Rt → Prop) (h : SP_law_wide ds x R) : W_law_wide (endsOf R x) (startE 1 ds) := by
  obtain ⟨cell, rfl, q⟩ := h
  simp only [W_law_wide, wVar, wOwn, wC, wOp, onBl, wtOn, wChain, trD, wtVal, wtNot, wAnd, wOr, wAndV, wOrV, wNotV, wIf, wNil, wCons, wTup, wLst, wUn, wNew, gAdd, gInt, gInt0, gMul, gCatF, gRepF, wOpF, gEq, gCmp, gInS, gIsN, isN, gIsB, gIdx, woNone, woSome, gSl, wSl, gSlF, wSlF, wB, wBF, gLen, gInt1, gInt2, gToInt, gListF, tyName, gIsT, wIsT, wCall, Rt.d, Cn.d, onNew, wCallF, wCallN, wCallNF, nlR, wgName, wgNil, wgCons, wgTup, wSeq, wSeqT, wSigns, wRng1, wRng2, wRng3, wRev, wEnum, wZip, wLc, wtYes, wsNil, wsBrk, wsCnt, wsExpr, wsRet, wsRetF, wsRetOwn, wsRetN, wIfS, wsSet, wsSetF, wsAsg, wsPar, wsAug, gApp, gExt, gPop0, gRev, wMut, wsSetIx, wFor, wsRaise, wSeqS, wFrz, wsCallM, wsPopAdd, endsOf, endM, endsM, startM, startE, wipeE, smallI, CPow, Br_true, Br_false, Br_not, rngD_eq, dC, dP, dI, ex_atI_map, atI0, atI1, atI2, kit1, kit2, kit3, kit4, kit5, kit6, kit7, kit8, kit9, kit10, kit11, kit12, kit13, kit14, kit15, kit16, kit17, kit18, kit19, kit20, kit21, kit22, kit23, kit24, kit25, kit26, kit27, kit28, kit29, kit30, kit31, kit32, kit33, kit34, kit35, sizeLine_eq, true_and, and_true, exists_eq_left', Option.some.injEq, List.map_cons, List.map_nil, List.length_cons, List.length_nil, List.length_map, List.length_append, List.cons_append, List.nil_append, List.set_cons_zero, List.set_cons_succ, List.getElem?_cons_zero, List.getElem?_cons_succ, List.getElem?_nil, Nat.reduceSub, Nat.reduceAdd, Nat.zero_add, Nat.sub_self, List.replicate_succ, List.replicate_zero, Bool.false_bne, Bool.true_bne, Bool.false_xor, Bool.true_xor, Bool.not_true, Bool.not_false, Bool.not_not, beq_self_eq_true, Bool.and_true, Bool.true_and, nl, nls, decide_true, decide_false, exists_eq_left, Bool.false_eq_true, Option.some_inj, Int.reduceToNat, Int.reducePow, Int.reduceMul, Int.reduceSub, Int.reduceAdd, Int.reduceNeg, Nat.reducePow, Nat.reduceLeDiff, Int.reduceLE, Int.reduceLT, Int.reduceAbs, Int.natAbs_neg, Nat.reduceLT, divW_eq, mulW_eq, Bool.or_true, Bool.true_or, cut_map, ← List.map_append, ← List.map_reverse, castN, eq_self, Int.reduceEq, deqC, deq_self, rep_map, nls_dP, wsAugIx, tx_cps, tx_len, tx_app, tx_one, tx_nil, tx_cut, tx_signs, tx_rep, lit_empty, tx_inj, wJoin, gJoin, wmCall, wmOpL, wmOpR, wmIxR, wmTup2, wsSetM, wsAppM, wForM, gSum, gAny, gAll, gLtD, gInT, gSorted, gAddT, wThaw, gMaxL, wsRetT, wsRetTF, wmApp, mutW, wNIf, wNIfM, wsNo, nestQ, wNest, isL, wsSetV]
  obtain ⟨d, e, m⟩ := atI_in (xs := [D.int 1, D.int 2, D.int 3, D.int 999999999999999999999999999999]) (i := cell % 4) (by omega) (by simp; omega)
  refine ⟨d, e, ?_⟩
  simp only [List.mem_cons, List.not_mem_nil, or_false] at m
  rcases m with rfl | rfl | rfl | rfl <;> exact q _ (by decide) (by decide)
def SP_law_digit : SpecM := fun xs ds R => ∃ r m : Int, xs = [.int r] ∧ ds = [.int m] ∧ 0 < m ∧ m < 1606938044258990275541962092341162602522202993782792835301376 ∧ ∀ z d : Int, 0 ≤ d → d < m → R [.int z] (.int d)
theorem len_law_digit (xs ds : List D) (R : List D → D → Prop) (h : SP_law_digit xs ds R) : ds.length + 1 = ["_law_rest", "_law_m"].length := by
  obtain ⟨r, m, _, rfl, _⟩ := h; rfl
def W_law_digit : WS :=
  (wSeqS (wsSet 2 (wOp (gInt (fun _ j => 0 < j) fun i j => i % j) (wOp gIdx (wOwn 0) (wC (.int 0))) (wVar 1)))
  (wSeqS (wsSetIx 0 (wOp (gInt CDivW fun i j => i / j) (wOp gIdx (wOwn 0) (wC (.int 0))) (wVar 1)) (wC (.int 0)))
  (wsRet (wVar 2))))
theorem pure_law_digit (xs ds : List D) (R : List D → D → Prop) (h : SP_law_digit xs ds R) : W_law_digit (endsM R) (startM 3 xs ds) := by
  obtain ⟨r, m, rfl, rfl, h0, h1, q⟩ := h
  have d0 : 0 ≤ r % m := Int.emod_nonneg _ (by omega)
  have d1 : r % m < m := Int.emod_lt_of_pos _ h0
  have e : (2 : Nat) ^ 201 = 3213876088517980551083924184682325205044405987565585670602752 := by decide
  simp only [W_law_digit, wVar, wOwn, wC, wOp, onBl, wtOn, wChain, trD, wtVal, wtNot, wAnd, wOr, wAndV, wOrV, wNotV, wIf, wNil, wCons, wTup, wLst, wUn, wNew, gAdd, gInt, gInt0, gMul, gCatF, gRepF, wOpF, gEq, gCmp, gInS, gIsN, isN, gIsB, gIdx, woNone, woSome, gSl, wSl, gSlF, wSlF, wB, wBF, gLen, gInt1, gInt2, gToInt, gListF, tyName, gIsT, wIsT, wCall, Rt.d, Cn.d, onNew, wCallF, wCallN, wCallNF, nlR, wgName, wgNil, wgCons, wgTup, wSeq, wSeqT, wSigns, wRng1, wRng2, wRng3, wRev, wEnum, wZip, wLc, wtYes, wsNil, wsBrk, wsCnt, wsExpr, wsRet, wsRetF, wsRetOwn, wsRetN, wIfS, wsSet, wsSetF, wsAsg, wsPar, wsAug, gApp, gExt, gPop0, gRev, wMut, wsSetIx, wFor, wsRaise, wSeqS, wFrz, wsCallM, wsPopAdd, endsOf, endM, endsM, startM, startE, wipeE, smallI, CPow, Br_true, Br_false, Br_not, rngD_eq, dC, dP, dI, ex_atI_map, atI0, atI1, atI2, kit1, kit2, kit3, kit4, kit5, kit6, kit7, kit8, kit9, kit10, kit11, kit12, kit13, kit14, kit15, kit16, kit17, kit18, kit19, kit20, kit21, kit22, kit23, kit24, kit25, kit26, kit27, kit28, kit29, kit30, kit31, kit32, kit33, kit34, kit35, sizeLine_eq, true_and, and_true, exists_eq_left', Option.some.injEq, List.map_cons, List.map_nil, List.length_cons, List.length_nil, List.length_map, List.length_append, List.cons_append, List.nil_append, List.set_cons_zero, List.set_cons_succ, List.getElem?_cons_zero, List.getElem?_cons_succ, List.getElem?_nil, Nat.reduceSub, Nat.reduceAdd, Nat.zero_add, Nat.sub_self, List.replicate_succ, List.replicate_zero, Bool.false_bne, Bool.true_bne, Bool.false_xor, Bool.true_xor, Bool.not_true, Bool.not_false, Bool.not_not, beq_self_eq_true, Bool.and_true, Bool.true_and, nl, nls, decide_true, decide_false, exists_eq_left, Bool.false_eq_true, Option.some_inj, Int.reduceToNat, Int.reducePow, Int.reduceMul, Int.reduceSub, Int.reduceAdd, Int.reduceNeg, Nat.reducePow, Nat.reduceLeDiff, Int.reduceLE, Int.reduceLT, Int.reduceAbs, Int.natAbs_neg, Nat.reduceLT, divW_eq, mulW_eq, Bool.or_true, Bool.true_or, cut_map, ← List.map_append, ← List.map_reverse, castN, eq_self, Int.reduceEq, deqC, deq_self, rep_map, nls_dP, wsAugIx, tx_cps, tx_len, tx_app, tx_one, tx_nil, tx_cut, tx_signs, tx_rep, lit_empty, tx_inj, wJoin, gJoin, wmCall, wmOpL, wmOpR, wmIxR, wmTup2, wsSetM, wsAppM, wForM, gSum, gAny, gAll, gLtD, gInT, gSorted, gAddT, wThaw, gMaxL, wsRetT, wsRetTF, wmApp, mutW, wNIf, wNIfM, wsNo, nestQ, wNest, isL, wsSetV]
  exact ⟨h0, divW h0 (by omega), 0, rfl, q _ _ d0 d1⟩
def SP_law_mix : Spec := fun ds _ R => ∃ cell k : Int, ds = [.int cell, .int k] ∧ 0 ≤ k ∧ k ≤ 100000 ∧ ∀ v : Int, 0 ≤ v → v < 2305843009213693951 → R (.val (.int v))
theorem len_law_mix (ds : List D) (x : XS) (R : Rt → Prop) (h : SP_law_mix ds x R) : ds.length = ["_law_cell", "_law_k"].length := by
  obtain ⟨c, k, rfl, _⟩ := h; rfl
def W_law_mix : WS :=
  (wSeqS (wsSet 2 (wOp gAdd (wOp gAdd (wOp (gInt (fun _ j => 0 < j) fun i j => i % j) (wVar 0) (wC (.int 2305843009213693951))) (wOp gMul (wC (.int 131)) (wVar 1))) (wC (.int 17))))
  (wSeqS (wsSet 2 (wOp (gInt (fun _ j => 0 < j) fun i j => i % j) (wOp gMul (wVar 2) (wOp gAdd (wC (.int 2862933555777941757)) (wOp gMul (wOp gMul (wC (.int 2)) (wVar 1)) (wVar 1)))) (wC (.int 2305843009213693951))))
  (wsRet (wOp (gInt CDivW fun i j => i / j) (wOp (gInt (fun _ j => 0 < j) fun i j => i % j) (wOp gMul (wOp gAdd (wOp (gInt CDivW fun i j => i / j) (wVar 2) (wC (.int 8191))) (wOp gMul (wVar 1) (wVar 1))) (wC (.int 3935559000370003845))) (wC (.int 2305843009213693921))) (wC (.int 7))))))
theorem pure_law_mix (ds : List D) (x : XS) (R : Rt → Prop) (h : SP_law_mix ds x R) : W_law_mix (endsOf R x) (startE 3 ds) := by
  obtain ⟨cell, k, rfl, hk, hk2, q⟩ := h
  have kk : 0 ≤ k * k ∧ k * k ≤ 10000000000 := ⟨Int.mul_nonneg hk hk, Int.mul_le_mul hk2 hk2 hk (by omega)⟩
  have k2 : 0 ≤ 2 * k * k ∧ 2 * k * k ≤ 20000000000 := by rw [Int.mul_assoc]; omega
  simp only [W_law_mix, wVar, wOwn, wC, wOp, onBl, wtOn, wChain, trD, wtVal, wtNot, wAnd, wOr, wAndV, wOrV, wNotV, wIf, wNil, wCons, wTup, wLst, wUn, wNew, gAdd, gInt, gInt0, gMul, gCatF, gRepF, wOpF, gEq, gCmp, gInS, gIsN, isN, gIsB, gIdx, woNone, woSome, gSl, wSl, gSlF, wSlF, wB, wBF, gLen, gInt1, gInt2, gToInt, gListF, tyName, gIsT, wIsT, wCall, Rt.d, Cn.d, onNew, wCallF, wCallN, wCallNF, nlR, wgName, wgNil, wgCons, wgTup, wSeq, wSeqT, wSigns, wRng1, wRng2, wRng3, wRev, wEnum, wZip, wLc, wtYes, wsNil, wsBrk, wsCnt, wsExpr, wsRet, wsRetF, wsRetOwn, wsRetN, wIfS, wsSet, wsSetF, wsAsg, wsPar, wsAug, gApp, gExt, gPop0, gRev, wMut, wsSetIx, wFor, wsRaise, wSeqS, wFrz, wsCallM, wsPopAdd, endsOf, endM, endsM, startM, startE, wipeE, smallI, CPow, Br_true, Br_false, Br_not, rngD_eq, dC, dP, dI, ex_atI_map, atI0, atI1, atI2, kit1, kit2, kit3, kit4, kit5, kit6, kit7, kit8, kit9, kit10, kit11, kit12, kit13, kit14, kit15, kit16, kit17, kit18, kit19, kit20, kit21, kit22, kit23, kit24, kit25, kit26, kit27, kit28, kit29, kit30, kit31, kit32, kit33, kit34, kit35, sizeLine_eq, true_and, and_true, exists_eq_left', Option.some.injEq, List.map_cons, List.map_nil, List.length_cons, List.length_nil, List.length_map, List.length_append, List.cons_append, List.nil_append, List.set_cons_zero, List.set_cons_succ, List.getElem?_cons_zero, List.getElem?_cons_succ, List.getElem?_nil, Nat.reduceSub, Nat.reduceAdd, Nat.zero_add, Nat.sub_self, List.replicate_succ, List.replicate_zero, Bool.false_bne, Bool.true_bne, Bool.false_xor, Bool.true_xor, Bool.not_true, Bool.not_false, Bool.not_not, beq_self_eq_true, Bool.and_true, Bool.true_and, nl, nls, decide_true, decide_false, exists_eq_left, Bool.false_eq_true, Option.some_inj, Int.reduceToNat, Int.reducePow, Int.reduceMul, Int.reduceSub, Int.reduceAdd, Int.reduceNeg, Nat.reducePow, Nat.reduceLeDiff, Int.reduceLE, Int.reduceLT, Int.reduceAbs, Int.natAbs_neg, Nat.reduceLT, divW_eq, mulW_eq, Bool.or_true, Bool.true_or, cut_map, ← List.map_append, ← List.map_reverse, castN, eq_self, Int.reduceEq, deqC, deq_self, rep_map, nls_dP, wsAugIx, tx_cps, tx_len, tx_app, tx_one, tx_nil, tx_cut, tx_signs, tx_rep, lit_empty, tx_inj, wJoin, gJoin, wmCall, wmOpL, wmOpR, wmIxR, wmTup2, wsSetM, wsAppM, wForM, gSum, gAny, gAll, gLtD, gInT, gSorted, gAddT, wThaw, gMaxL, wsRetT, wsRetTF, wmApp, mutW, wNIf, wNIfM, wsNo, nestQ, wNest, isL, wsSetV]
  have a0 : 0 ≤ cell % 2305843009213693951 := Int.emod_nonneg _ (by decide)
  have a1 : cell % 2305843009213693951 < 2305843009213693951 := Int.emod_lt_of_pos _ (by decide)
  generalize cell % 2305843009213693951 = v at a0 a1 ⊢
  have b0 : 0 ≤ (v + 131 * k + 17) * (2862933555777941757 + 2 * k * k) % 2305843009213693951 := Int.emod_nonneg _ (by decide)
  have b1 : (v + 131 * k + 17) * (2862933555777941757 + 2 * k * k) % 2305843009213693951 < 2305843009213693951 := Int.emod_lt_of_pos _ (by decide)
  refine ⟨mulW (by omega) (by omega), mulW (by omega) (by omega), mulW (by omega) (by omega), mulW (by omega) (by omega), ?_⟩
  generalize (v + 131 * k + 17) * (2862933555777941757 + 2 * k * k) % 2305843009213693951 = w at b0 b1 ⊢
  refine ⟨mulW (by omega) (by omega), mulW (by omega) (by omega), q _ (by omega) (by omega)⟩
def SP_law_cord : Spec := fun ds _ R => ∃ (cell w : Int) (l : List Nat) (most : Nat), ds = [.int cell, .str (tx l), .int w, .int most] ∧ 1 ≤ l.length ∧ l.length ≤ 1000 ∧ Lt l ∧ 1 ≤ w ∧ w ≤ 999999999999999999999999999999 ∧ most ≤ 10000 ∧ ∀ c : List Pc, c.length ≤ most → Gds w c → (∀ p ∈ c, ∃ y ∈ l, p.1 = tx [y]) → R (.new (.lst (c.map dP)))
theorem len_law_cord (ds : List D) (x : XS) (R : Rt → Prop) (h : SP_law_cord ds x R) : ds.length = ["_law_cell", "_law_nails_here", "_law_wide_here", "_law_most"].length := by
  obtain ⟨c, w, l, m, rfl, _⟩ := h; rfl
def W_law_cord_1_0 : WS :=
  (wSeqS (wsSetF 6 (wLst (wCons (wVar 0) wNil)))
  (wSeqS (wForM (wmCall 6 SP_law_digit (wCons (wOp gAdd (wVar 3) (wC (.int 1))) wNil)) (wgName 5)
  (wSeqS (wsSetM 7 (wmIxR (wVar 1) (wmCall 6 SP_law_digit (wCons (wB gLen (wCons (wVar 1) wNil)) wNil))))
  (wsAppM 4 (wmTup2 (wVar 7) (wmOpL (gInt0 fun i j => i - j) (wmCall 6 SP_law_digit (wCons (wOp gAdd (wOp gMul (wC (.int 2)) (wVar 2)) (wC (.int 1))) wNil)) (wVar 2))))))
  (wsRetOwn 4)))
def W_law_cord_2 : WS :=
  (wSeqS (wFor (wRng1 (wOp (gInt (fun _ j => 0 < j) fun i j => i % j) (wCall SP_law_mix (wCons (wVar 0) (wCons (wC (.int 0)) wNil))) (wOp gAdd (wVar 3) (wC (.int 1))))) (wgName 5)
  (wSeqS (wsSet 7 (wOp gIdx (wVar 1) (wOp (gInt (fun _ j => 0 < j) fun i j => i % j) (wCall SP_law_mix (wCons (wVar 0) (wCons (wOp gAdd (wOp gMul (wC (.int 2)) (wVar 5)) (wC (.int 1))) wNil))) (wB gLen (wCons (wVar 1) wNil)))))
  (wMut 4 gApp (wCons (wTup (wCons (wVar 7) (wCons (wOp (gInt0 fun i j => i - j) (wOp (gInt (fun _ j => 0 < j) fun i j => i % j) (wCall SP_law_mix (wCons (wVar 0) (wCons (wOp gAdd (wOp gMul (wC (.int 2)) (wVar 5)) (wC (.int 2))) wNil))) (wOp gAdd (wOp gMul (wC (.int 2)) (wVar 2)) (wC (.int 1)))) (wVar 2)) wNil))) wNil))))
  (wsRetOwn 4))
def W_law_cord : WS :=
  (wSeqS (wsSetF 4 (wLst wNil))
  (wSeqS (wIfS (wtNot (wtOn (wChain (gCmp fun i j => decide (i < j)) (gCmp fun i j => decide (i < j)) (wUn (fun i => -i) (wOp (gInt CPow fun i j => i ^ j.toNat) (wC (.int 10)) (wC (.int 18)))) (wVar 0) (wOp (gInt CPow fun i j => i ^ j.toNat) (wC (.int 10)) (wC (.int 18))))))
  W_law_cord_1_0
  wsNil)
  W_law_cord_2))
theorem law_cord_digits {q : DEnds} {cell w : Int} {l : List Nat} {most : Nat} {s5 s6 s7 : Sl} (hl : 1 ≤ l.length) (hl2 : l.length ≤ 1000) (ll : Lt l) (w0 : 1 ≤ w) (w1 : w ≤ 999999999999999999999999999999) (hm : most ≤ 10000)
    (hq : ∀ (c : List Pc) ρ, c.length ≤ most → Gds w c → (∀ p ∈ c, ∃ y ∈ l, p.1 = tx [y]) → q.rt (.new (.lst (c.map dP))) ρ) :
    W_law_cord_1_0 q [.fz (.int cell), .fz (.str (tx l)), .fz (.int w), .fz (.int most), .own false (.lst []), s5, s6, s7] := by
  simp only [W_law_cord_1_0, wVar, wOwn, wC, wOp, onBl, wtOn, wChain, trD, wtVal, wtNot, wAnd, wOr, wAndV, wOrV, wNotV, wIf, wNil, wCons, wTup, wLst, wUn, wNew, gAdd, gInt, gInt0, gMul, gCatF, gRepF, wOpF, gEq, gCmp, gInS, gIsN, isN, gIsB, gIdx, woNone, woSome, gSl, wSl, gSlF, wSlF, wB, wBF, gLen, gInt1, gInt2, gToInt, gListF, tyName, gIsT, wIsT, wCall, Rt.d, Cn.d, onNew, wCallF, wCallN, wCallNF, nlR, wgName, wgNil, wgCons, wgTup, wSeq, wSeqT, wSigns, wRng1, wRng2, wRng3, wRev, wEnum, wZip, wLc, wtYes, wsNil, wsBrk, wsCnt, wsExpr, wsRet, wsRetF, wsRetOwn, wsRetN, wIfS, wsSet, wsSetF, wsAsg, wsPar, wsAug, gApp, gExt, gPop0, gRev, wMut, wsSetIx, wFor, wsRaise, wSeqS, wFrz, wsCallM, wsPopAdd, endsOf, endM, endsM, startM, startE, wipeE, smallI, CPow, Br_true, Br_false, Br_not, rngD_eq, dC, dP, dI, ex_atI_map, atI0, atI1, atI2, kit1, kit2, kit3, kit4, kit5, kit6, kit7, kit8, kit9, kit10, kit11, kit12, kit13, kit14, kit15, kit16, kit17, kit18, kit19, kit20, kit21, kit22, kit23, kit24, kit25, kit26, kit27, kit28, kit29, kit30, kit31, kit32, kit33, kit34, kit35, sizeLine_eq, true_and, and_true, exists_eq_left', Option.some.injEq, List.map_cons, List.map_nil, List.length_cons, List.length_nil, List.length_map, List.length_append, List.cons_append, List.nil_append, List.set_cons_zero, List.set_cons_succ, List.getElem?_cons_zero, List.getElem?_cons_succ, List.getElem?_nil, Nat.reduceSub, Nat.reduceAdd, Nat.zero_add, Nat.sub_self, List.replicate_succ, List.replicate_zero, Bool.false_bne, Bool.true_bne, Bool.false_xor, Bool.true_xor, Bool.not_true, Bool.not_false, Bool.not_not, beq_self_eq_true, Bool.and_true, Bool.true_and, nl, nls, decide_true, decide_false, exists_eq_left, Bool.false_eq_true, Option.some_inj, Int.reduceToNat, Int.reducePow, Int.reduceMul, Int.reduceSub, Int.reduceAdd, Int.reduceNeg, Nat.reducePow, Nat.reduceLeDiff, Int.reduceLE, Int.reduceLT, Int.reduceAbs, Int.natAbs_neg, Nat.reduceLT, divW_eq, mulW_eq, Bool.or_true, Bool.true_or, cut_map, ← List.map_append, ← List.map_reverse, castN, eq_self, Int.reduceEq, deqC, deq_self, rep_map, nls_dP, wsAugIx, tx_cps, tx_len, tx_app, tx_one, tx_nil, tx_cut, tx_signs, tx_rep, lit_empty, tx_inj, wJoin, gJoin, wmCall, wmOpL, wmOpR, wmIxR, wmTup2, wsSetM, wsAppM, wForM, gSum, gAny, gAll, gLtD, gInT, gSorted, gAddT, wThaw, gMaxL, wsRetT, wsRetTF, wmApp, mutW, wNIf, wNIfM, wsNo, nestQ, wNest, isL, wsSetV]
  refine ⟨cell, (most : Int) + 1, rfl, rfl, by omega, by omega, fun z d d0 d1 => ?_⟩
  walk_at "s"
  refine ⟨by omega, ?_⟩
  refine loop_ind (S := List Pc × Int × Sl × Sl) D.int (fun s => [.fz (.int cell), .fz (.str (tx l)), .fz (.int w), .fz (.int most), .own false (.lst (s.1.map dP)), s.2.2.1, .own false (.lst [.int s.2.1]), s.2.2.2])
    (fun ks s => s.1.length + ks.length ≤ most ∧ Gds w s.1 ∧ ∀ p ∈ s.1, ∃ y ∈ l, p.1 = tx [y]) ?_ ?_ _ ([], z, s5, s7) ⟨by simp [rng_len]; omega, .nil, fun _ h => by cases h⟩
  · rintro ⟨c, z, s5, s7⟩ ⟨h1, h2, h3⟩
    walk_at "s"
    exact hq c _ (by simpa using h1) h2 h3
  · rintro k ks ⟨c, z, s5, s7⟩ L ⟨h1, h2, h3⟩ ih
    simp only [List.length_cons] at h1 h2 h3
    walk_at "s"
    refine ⟨by omega, ?_⟩
    refine ⟨z, (l.length : Int), rfl, rfl, by omega, by omega, fun z1 d e0 e1 => ?_⟩
    obtain ⟨y, hy, my⟩ := atI_in (xs := l) (i := d) e0 e1
    walk_at "s"
    refine ⟨by omega, y, hy, ?_⟩
    refine ⟨mulW (by omega) (by omega), ?_⟩
    refine ⟨z1, 2 * w + 1, rfl, rfl, by omega, by omega, fun z2 u u0 u1 => ?_⟩
    walk_at "s"
    refine ⟨by omega, ?_⟩
    have := ih (c ++ [(tx [y], u - w)], z2, .fz (.int k), .fz (.str (tx [y]))) ⟨by simp; omega, h2.app fun p hp => by rw [List.mem_singleton] at hp; rw [hp]; exact ⟨⟨y, rfl, ll y my⟩, by show -w ≤ u - w; omega, by show u - w ≤ w; omega⟩, fun p hp => (List.mem_append.mp hp).elim (h3 p) fun hp => by rw [List.mem_singleton] at hp; rw [hp]; exact ⟨y, my, rfl⟩⟩
    simpa [dP] using this
theorem law_cord_mixed {q : DEnds} {cell w : Int} {l : List Nat} {most : Nat} {s5 s6 s7 : Sl} (hl : 1 ≤ l.length) (hl2 : l.length ≤ 1000) (ll : Lt l) (w0 : 1 ≤ w) (w1 : w ≤ 999999999999999999999999999999) (hm : most ≤ 10000)
    (hq : ∀ (c : List Pc) ρ, c.length ≤ most → Gds w c → (∀ p ∈ c, ∃ y ∈ l, p.1 = tx [y]) → q.rt (.new (.lst (c.map dP))) ρ) :
    W_law_cord_2 q [.fz (.int cell), .fz (.str (tx l)), .fz (.int w), .fz (.int most), .own false (.lst []), s5, s6, s7] := by
  simp only [W_law_cord_2, wVar, wOwn, wC, wOp, onBl, wtOn, wChain, trD, wtVal, wtNot, wAnd, wOr, wAndV, wOrV, wNotV, wIf, wNil, wCons, wTup, wLst, wUn, wNew, gAdd, gInt, gInt0, gMul, gCatF, gRepF, wOpF, gEq, gCmp, gInS, gIsN, isN, gIsB, gIdx, woNone, woSome, gSl, wSl, gSlF, wSlF, wB, wBF, gLen, gInt1, gInt2, gToInt, gListF, tyName, gIsT, wIsT, wCall, Rt.d, Cn.d, onNew, wCallF, wCallN, wCallNF, nlR, wgName, wgNil, wgCons, wgTup, wSeq, wSeqT, wSigns, wRng1, wRng2, wRng3, wRev, wEnum, wZip, wLc, wtYes, wsNil, wsBrk, wsCnt, wsExpr, wsRet, wsRetF, wsRetOwn, wsRetN, wIfS, wsSet, wsSetF, wsAsg, wsPar, wsAug, gApp, gExt, gPop0, gRev, wMut, wsSetIx, wFor, wsRaise, wSeqS, wFrz, wsCallM, wsPopAdd, endsOf, endM, endsM, startM, startE, wipeE, smallI, CPow, Br_true, Br_false, Br_not, rngD_eq, dC, dP, dI, ex_atI_map, atI0, atI1, atI2, kit1, kit2, kit3, kit4, kit5, kit6, kit7, kit8, kit9, kit10, kit11, kit12, kit13, kit14, kit15, kit16, kit17, kit18, kit19, kit20, kit21, kit22, kit23, kit24, kit25, kit26, kit27, kit28, kit29, kit30, kit31, kit32, kit33, kit34, kit35, sizeLine_eq, true_and, and_true, exists_eq_left', Option.some.injEq, List.map_cons, List.map_nil, List.length_cons, List.length_nil, List.length_map, List.length_append, List.cons_append, List.nil_append, List.set_cons_zero, List.set_cons_succ, List.getElem?_cons_zero, List.getElem?_cons_succ, List.getElem?_nil, Nat.reduceSub, Nat.reduceAdd, Nat.zero_add, Nat.sub_self, List.replicate_succ, List.replicate_zero, Bool.false_bne, Bool.true_bne, Bool.false_xor, Bool.true_xor, Bool.not_true, Bool.not_false, Bool.not_not, beq_self_eq_true, Bool.and_true, Bool.true_and, nl, nls, decide_true, decide_false, exists_eq_left, Bool.false_eq_true, Option.some_inj, Int.reduceToNat, Int.reducePow, Int.reduceMul, Int.reduceSub, Int.reduceAdd, Int.reduceNeg, Nat.reducePow, Nat.reduceLeDiff, Int.reduceLE, Int.reduceLT, Int.reduceAbs, Int.natAbs_neg, Nat.reduceLT, divW_eq, mulW_eq, Bool.or_true, Bool.true_or, cut_map, ← List.map_append, ← List.map_reverse, castN, eq_self, Int.reduceEq, deqC, deq_self, rep_map, nls_dP, wsAugIx, tx_cps, tx_len, tx_app, tx_one, tx_nil, tx_cut, tx_signs, tx_rep, lit_empty, tx_inj, wJoin, gJoin, wmCall, wmOpL, wmOpR, wmIxR, wmTup2, wsSetM, wsAppM, wForM, gSum, gAny, gAll, gLtD, gInT, gSorted, gAddT, wThaw, gMaxL, wsRetT, wsRetTF, wmApp, mutW, wNIf, wNIfM, wsNo, nestQ, wNest, isL, wsSetV]
  refine ⟨cell, 0, rfl, by omega, by omega, fun v v0 v1 => ?_⟩
  walk_at "s"
  have a0 : 0 ≤ v % ((most : Int) + 1) := Int.emod_nonneg _ (by omega)
  have a1 : v % ((most : Int) + 1) < (most : Int) + 1 := Int.emod_lt_of_pos _ (by omega)
  refine ⟨by omega, by omega, ?_⟩
  refine loop_ind (S := List Pc × Sl × Sl) D.int (fun s => [.fz (.int cell), .fz (.str (tx l)), .fz (.int w), .fz (.int most), .own false (.lst (s.1.map dP)), s.2.1, s6, s.2.2])
    (fun ks s => s.1.length + ks.length ≤ most ∧ Gds w s.1 ∧ (∀ p ∈ s.1, ∃ y ∈ l, p.1 = tx [y]) ∧ ∀ k ∈ ks, 0 ≤ k ∧ k ≤ 10000) ?_ ?_ _ ([], s5, s7) ⟨by simp [rng_len]; omega, .nil, (fun _ h => by cases h), fun k hk => by obtain ⟨i, hi, rfl⟩ := mem_rng hk; omega⟩
  · rintro ⟨c, s5, s7⟩ ⟨h1, h2, h3, _⟩
    walk_at "s"
    exact hq c _ (by simpa using h1) h2 h3
  · rintro k ks ⟨c, s5, s7⟩ L ⟨h1, h2, h3, h4⟩ ih
    simp only [List.length_cons] at h1 h2 h3
    obtain ⟨k0, k1⟩ := h4 k (by simp)
    walk_at "s"
    refine ⟨mulW (by omega) (by omega), ?_⟩
    refine ⟨cell, 2 * k + 1, rfl, by omega, by omega, fun d d0 d1 => ?_⟩
    walk_at "s"
    have e0 : 0 ≤ d % (l.length : Int) := Int.emod_nonneg _ (by omega)
    have e1 : d % (l.length : Int) < l.length := Int.emod_lt_of_pos _ (by omega)
    obtain ⟨y, hy, my⟩ := atI_in (xs := l) (i := d % l.length) e0 e1
    refine ⟨by omega, by omega, by omega, y, hy, ?_⟩
    refine ⟨mulW (by omega) (by omega), ?_⟩
    refine ⟨cell, 2 * k + 2, rfl, by omega, by omega, fun u u0 u1 => ?_⟩
    walk_at "s"
    have f0 : 0 ≤ u % (2 * w + 1) := Int.emod_nonneg _ (by omega)
    have f1 : u % (2 * w + 1) < 2 * w + 1 := Int.emod_lt_of_pos _ (by omega)
    refine ⟨mulW (by omega) (by omega), by omega, by omega, ?_⟩
    have := ih (c ++ [(tx [y], u % (2 * w + 1) - w)], .fz (.int k), .fz (.str (tx [y]))) ⟨by simp; omega, h2.app fun p hp => by rw [List.mem_singleton] at hp; rw [hp]; exact ⟨⟨y, rfl, ll y my⟩, by show -w ≤ u % (2 * w + 1) - w; omega, by show u % (2 * w + 1) - w ≤ w; omega⟩, fun p hp => (List.mem_append.mp hp).elim (h3 p) fun hp => by rw [List.mem_singleton] at hp; rw [hp]; exact ⟨y, my, rfl⟩, fun j hj => h4 j (by simp [hj])⟩
    simpa [dP] using this
theorem pure_law_cord (ds : List D) (x : XS) (R : Rt → Prop) (h : SP_law_cord ds x R) : W_law_cord (endsOf R x) (startE 8 ds) := by
  obtain ⟨cell, w, l, most, rfl, hl, hl2, ll, w0, w1, hm, q⟩ := h
  simp only [W_law_cord, wVar, wOwn, wC, wOp, onBl, wtOn, wChain, trD, wtVal, wtNot, wAnd, wOr, wAndV, wOrV, wNotV, wIf, wNil, wCons, wTup, wLst, wUn, wNew, gAdd, gInt, gInt0, gMul, gCatF, gRepF, wOpF, gEq, gCmp, gInS, gIsN, isN, gIsB, gIdx, woNone, woSome, gSl, wSl, gSlF, wSlF, wB, wBF, gLen, gInt1, gInt2, gToInt, gListF, tyName, gIsT, wIsT, wCall, Rt.d, Cn.d, onNew, wCallF, wCallN, wCallNF, nlR, wgName, wgNil, wgCons, wgTup, wSeq, wSeqT, wSigns, wRng1, wRng2, wRng3, wRev, wEnum, wZip, wLc, wtYes, wsNil, wsBrk, wsCnt, wsExpr, wsRet, wsRetF, wsRetOwn, wsRetN, wIfS, wsSet, wsSetF, wsAsg, wsPar, wsAug, gApp, gExt, gPop0, gRev, wMut, wsSetIx, wFor, wsRaise, wSeqS, wFrz, wsCallM, wsPopAdd, endsOf, endM, endsM, startM, startE, wipeE, smallI, CPow, Br_true, Br_false, Br_not, rngD_eq, dC, dP, dI, ex_atI_map, atI0, atI1, atI2, kit1, kit2, kit3, kit4, kit5, kit6, kit7, kit8, kit9, kit10, kit11, kit12, kit13, kit14, kit15, kit16, kit17, kit18, kit19, kit20, kit21, kit22, kit23, kit24, kit25, kit26, kit27, kit28, kit29, kit30, kit31, kit32, kit33, kit34, kit35, sizeLine_eq, true_and, and_true, exists_eq_left', Option.some.injEq, List.map_cons, List.map_nil, List.length_cons, List.length_nil, List.length_map, List.length_append, List.cons_append, List.nil_append, List.set_cons_zero, List.set_cons_succ, List.getElem?_cons_zero, List.getElem?_cons_succ, List.getElem?_nil, Nat.reduceSub, Nat.reduceAdd, Nat.zero_add, Nat.sub_self, List.replicate_succ, List.replicate_zero, Bool.false_bne, Bool.true_bne, Bool.false_xor, Bool.true_xor, Bool.not_true, Bool.not_false, Bool.not_not, beq_self_eq_true, Bool.and_true, Bool.true_and, nl, nls, decide_true, decide_false, exists_eq_left, Bool.false_eq_true, Option.some_inj, Int.reduceToNat, Int.reducePow, Int.reduceMul, Int.reduceSub, Int.reduceAdd, Int.reduceNeg, Nat.reducePow, Nat.reduceLeDiff, Int.reduceLE, Int.reduceLT, Int.reduceAbs, Int.natAbs_neg, Nat.reduceLT, divW_eq, mulW_eq, Bool.or_true, Bool.true_or, cut_map, ← List.map_append, ← List.map_reverse, castN, eq_self, Int.reduceEq, deqC, deq_self, rep_map, nls_dP, wsAugIx, tx_cps, tx_len, tx_app, tx_one, tx_nil, tx_cut, tx_signs, tx_rep, lit_empty, tx_inj, wJoin, gJoin, wmCall, wmOpL, wmOpR, wmIxR, wmTup2, wsSetM, wsAppM, wForM, gSum, gAny, gAll, gLtD, gInT, gSorted, gAddT, wThaw, gMaxL, wsRetT, wsRetTF, wmApp, mutW, wNIf, wNIfM, wsNo, nestQ, wNest, isL, wsSetV]
  have dig := law_cord_digits (q := endsOf R x) (cell := cell) (s5 := .un) (s6 := .un) (s7 := .un) hl hl2 ll w0 w1 hm fun c _ h1 h2 h3 => q c h1 h2 h3
  have mix := law_cord_mixed (q := endsOf R x) (cell := cell) (s5 := .un) (s6 := .un) (s7 := .un) hl hl2 ll w0 w1 hm fun c _ h1 h2 h3 => q c h1 h2 h3
  refine Br.d (fun h => ?_) (fun h => ?_)
  · walk_at "s"
    refine Br.d (fun h => ?_) (fun h => ?_)
    · walk_at "s"
      exact mix
    · walk_at "s"
      exact dig
  · walk_at "s"
    exact dig
def SP_law_contrary : Spec := fun ds _ R => ∃ c : List Pc, ds = [dC c] ∧ c.length ≤ 16777216 ∧ R (.new (.lst ((con c).map dP)))
theorem len_law_contrary (ds : List D) (x : XS) (R : Rt → Prop) (h : SP_law_contrary ds x R) : ds.length = ["_law_cord_here"].length := by
  obtain ⟨c, rfl, _⟩ := h; rfl
def W_law_contrary : WS :=
  (wsRetF (wLc (wRev (wVar 0)) (wgTup 2 (wgCons (wgName 1) (wgCons (wgName 2) wgNil))) wtYes (wTup (wCons (wVar 1) (wCons (wUn (fun i => -i) (wVar 2)) wNil))) [1, 2]))
theorem pure_law_contrary (ds : List D) (x : XS) (R : Rt → Prop) (h : SP_law_contrary ds x R) : W_law_contrary (endsOf R x) (startE 3 ds) := by
  obtain ⟨c, rfl, hl, q⟩ := h
  simp only [W_law_contrary, wVar, wOwn, wC, wOp, onBl, wtOn, wChain, trD, wtVal, wtNot, wAnd, wOr, wAndV, wOrV, wNotV, wIf, wNil, wCons, wTup, wLst, wUn, wNew, gAdd, gInt, gInt0, gMul, gCatF, gRepF, wOpF, gEq, gCmp, gInS, gIsN, isN, gIsB, gIdx, woNone, woSome, gSl, wSl, gSlF, wSlF, wB, wBF, gLen, gInt1, gInt2, gToInt, gListF, tyName, gIsT, wIsT, wCall, Rt.d, Cn.d, onNew, wCallF, wCallN, wCallNF, nlR, wgName, wgNil, wgCons, wgTup, wSeq, wSeqT, wSigns, wRng1, wRng2, wRng3, wRev, wEnum, wZip, wLc, wtYes, wsNil, wsBrk, wsCnt, wsExpr, wsRet, wsRetF, wsRetOwn, wsRetN, wIfS, wsSet, wsSetF, wsAsg, wsPar, wsAug, gApp, gExt, gPop0, gRev, wMut, wsSetIx, wFor, wsRaise, wSeqS, wFrz, wsCallM, wsPopAdd, endsOf, endM, endsM, startM, startE, wipeE, smallI, CPow, Br_true, Br_false, Br_not, rngD_eq, dC, dP, dI, ex_atI_map, atI0, atI1, atI2, kit1, kit2, kit3, kit4, kit5, kit6, kit7, kit8, kit9, kit10, kit11, kit12, kit13, kit14, kit15, kit16, kit17, kit18, kit19, kit20, kit21, kit22, kit23, kit24, kit25, kit26, kit27, kit28, kit29, kit30, kit31, kit32, kit33, kit34, kit35, sizeLine_eq, true_and, and_true, exists_eq_left', Option.some.injEq, List.map_cons, List.map_nil, List.length_cons, List.length_nil, List.length_map, List.length_append, List.cons_append, List.nil_append, List.set_cons_zero, List.set_cons_succ, List.getElem?_cons_zero, List.getElem?_cons_succ, List.getElem?_nil, Nat.reduceSub, Nat.reduceAdd, Nat.zero_add, Nat.sub_self, List.replicate_succ, List.replicate_zero, Bool.false_bne, Bool.true_bne, Bool.false_xor, Bool.true_xor, Bool.not_true, Bool.not_false, Bool.not_not, beq_self_eq_true, Bool.and_true, Bool.true_and, nl, nls, decide_true, decide_false, exists_eq_left, Bool.false_eq_true, Option.some_inj, Int.reduceToNat, Int.reducePow, Int.reduceMul, Int.reduceSub, Int.reduceAdd, Int.reduceNeg, Nat.reducePow, Nat.reduceLeDiff, Int.reduceLE, Int.reduceLT, Int.reduceAbs, Int.natAbs_neg, Nat.reduceLT, divW_eq, mulW_eq, Bool.or_true, Bool.true_or, cut_map, ← List.map_append, ← List.map_reverse, castN, eq_self, Int.reduceEq, deqC, deq_self, rep_map, nls_dP, wsAugIx, tx_cps, tx_len, tx_app, tx_one, tx_nil, tx_cut, tx_signs, tx_rep, lit_empty, tx_inj, wJoin, gJoin, wmCall, wmOpL, wmOpR, wmIxR, wmTup2, wsSetM, wsAppM, wForM, gSum, gAny, gAll, gLtD, gInT, gSorted, gAddT, wThaw, gMaxL, wsRetT, wsRetTF, wmApp, mutW, wNIf, wNIfM, wsNo, nestQ, wNest, isL, wsSetV]
  refine compL_map dP (fun p => dP (p.1, -p.2)) (fun p Q' hq => ?_) _ _ ?_ ?_
  · simp only [wVar, wOwn, wC, wOp, onBl, wtOn, wChain, trD, wtVal, wtNot, wAnd, wOr, wAndV, wOrV, wNotV, wIf, wNil, wCons, wTup, wLst, wUn, wNew, gAdd, gInt, gInt0, gMul, gCatF, gRepF, wOpF, gEq, gCmp, gInS, gIsN, isN, gIsB, gIdx, woNone, woSome, gSl, wSl, gSlF, wSlF, wB, wBF, gLen, gInt1, gInt2, gToInt, gListF, tyName, gIsT, wIsT, wCall, Rt.d, Cn.d, onNew, wCallF, wCallN, wCallNF, nlR, wgName, wgNil, wgCons, wgTup, wSeq, wSeqT, wSigns, wRng1, wRng2, wRng3, wRev, wEnum, wZip, wLc, wtYes, wsNil, wsBrk, wsCnt, wsExpr, wsRet, wsRetF, wsRetOwn, wsRetN, wIfS, wsSet, wsSetF, wsAsg, wsPar, wsAug, gApp, gExt, gPop0, gRev, wMut, wsSetIx, wFor, wsRaise, wSeqS, wFrz, wsCallM, wsPopAdd, endsOf, endM, endsM, startM, startE, wipeE, smallI, CPow, Br_true, Br_false, Br_not, rngD_eq, dC, dP, dI, ex_atI_map, atI0, atI1, atI2, kit1, kit2, kit3, kit4, kit5, kit6, kit7, kit8, kit9, kit10, kit11, kit12, kit13, kit14, kit15, kit16, kit17, kit18, kit19, kit20, kit21, kit22, kit23, kit24, kit25, kit26, kit27, kit28, kit29, kit30, kit31, kit32, kit33, kit34, kit35, sizeLine_eq, true_and, and_true, exists_eq_left', Option.some.injEq, List.map_cons, List.map_nil, List.length_cons, List.length_nil, List.length_map, List.length_append, List.cons_append, List.nil_append, List.set_cons_zero, List.set_cons_succ, List.getElem?_cons_zero, List.getElem?_cons_succ, List.getElem?_nil, Nat.reduceSub, Nat.reduceAdd, Nat.zero_add, Nat.sub_self, List.replicate_succ, List.replicate_zero, Bool.false_bne, Bool.true_bne, Bool.false_xor, Bool.true_xor, Bool.not_true, Bool.not_false, Bool.not_not, beq_self_eq_true, Bool.and_true, Bool.true_and, nl, nls, decide_true, decide_false, exists_eq_left, Bool.false_eq_true, Option.some_inj, Int.reduceToNat, Int.reducePow, Int.reduceMul, Int.reduceSub, Int.reduceAdd, Int.reduceNeg, Nat.reducePow, Nat.reduceLeDiff, Int.reduceLE, Int.reduceLT, Int.reduceAbs, Int.natAbs_neg, Nat.reduceLT, divW_eq, mulW_eq, Bool.or_true, Bool.true_or, cut_map, ← List.map_append, ← List.map_reverse, castN, eq_self, Int.reduceEq, deqC, deq_self, rep_map, nls_dP, wsAugIx, tx_cps, tx_len, tx_app, tx_one, tx_nil, tx_cut, tx_signs, tx_rep, lit_empty, tx_inj, wJoin, gJoin, wmCall, wmOpL, wmOpR, wmIxR, wmTup2, wsSetM, wsAppM, wForM, gSum, gAny, gAll, gLtD, gInT, gSorted, gAddT, wThaw, gMaxL, wsRetT, wsRetTF, wmApp, mutW, wNIf, wNIfM, wsNo, nestQ, wNest, isL, wsSetV]
    simpa [dP] using hq
  · simp only [wVar, wOwn, wC, wOp, onBl, wtOn, wChain, trD, wtVal, wtNot, wAnd, wOr, wAndV, wOrV, wNotV, wIf, wNil, wCons, wTup, wLst, wUn, wNew, gAdd, gInt, gInt0, gMul, gCatF, gRepF, wOpF, gEq, gCmp, gInS, gIsN, isN, gIsB, gIdx, woNone, woSome, gSl, wSl, gSlF, wSlF, wB, wBF, gLen, gInt1, gInt2, gToInt, gListF, tyName, gIsT, wIsT, wCall, Rt.d, Cn.d, onNew, wCallF, wCallN, wCallNF, nlR, wgName, wgNil, wgCons, wgTup, wSeq, wSeqT, wSigns, wRng1, wRng2, wRng3, wRev, wEnum, wZip, wLc, wtYes, wsNil, wsBrk, wsCnt, wsExpr, wsRet, wsRetF, wsRetOwn, wsRetN, wIfS, wsSet, wsSetF, wsAsg, wsPar, wsAug, gApp, gExt, gPop0, gRev, wMut, wsSetIx, wFor, wsRaise, wSeqS, wFrz, wsCallM, wsPopAdd, endsOf, endM, endsM, startM, startE, wipeE, smallI, CPow, Br_true, Br_false, Br_not, rngD_eq, dC, dP, dI, ex_atI_map, atI0, atI1, atI2, kit1, kit2, kit3, kit4, kit5, kit6, kit7, kit8, kit9, kit10, kit11, kit12, kit13, kit14, kit15, kit16, kit17, kit18, kit19, kit20, kit21, kit22, kit23, kit24, kit25, kit26, kit27, kit28, kit29, kit30, kit31, kit32, kit33, kit34, kit35, sizeLine_eq, true_and, and_true, exists_eq_left', Option.some.injEq, List.map_cons, List.map_nil, List.length_cons, List.length_nil, List.length_map, List.length_append, List.cons_append, List.nil_append, List.set_cons_zero, List.set_cons_succ, List.getElem?_cons_zero, List.getElem?_cons_succ, List.getElem?_nil, Nat.reduceSub, Nat.reduceAdd, Nat.zero_add, Nat.sub_self, List.replicate_succ, List.replicate_zero, Bool.false_bne, Bool.true_bne, Bool.false_xor, Bool.true_xor, Bool.not_true, Bool.not_false, Bool.not_not, beq_self_eq_true, Bool.and_true, Bool.true_and, nl, nls, decide_true, decide_false, exists_eq_left, Bool.false_eq_true, Option.some_inj, Int.reduceToNat, Int.reducePow, Int.reduceMul, Int.reduceSub, Int.reduceAdd, Int.reduceNeg, Nat.reducePow, Nat.reduceLeDiff, Int.reduceLE, Int.reduceLT, Int.reduceAbs, Int.natAbs_neg, Nat.reduceLT, divW_eq, mulW_eq, Bool.or_true, Bool.true_or, cut_map, ← List.map_append, ← List.map_reverse, castN, eq_self, Int.reduceEq, deqC, deq_self, rep_map, nls_dP, wsAugIx, tx_cps, tx_len, tx_app, tx_one, tx_nil, tx_cut, tx_signs, tx_rep, lit_empty, tx_inj, wJoin, gJoin, wmCall, wmOpL, wmOpR, wmIxR, wmTup2, wsSetM, wsAppM, wForM, gSum, gAny, gAll, gLtD, gInT, gSorted, gAddT, wThaw, gMaxL, wsRetT, wsRetTF, wmApp, mutW, wNIf, wNIfM, wsNo, nestQ, wNest, isL, wsSetV]; simpa using hl
  · simpa [con, Function.comp_def] using q
def SP_law_short : Spec := fun ds _ R => ∃ c : List Pc, ds = [dC c] ∧ c.length < 16777216 ∧ R (.new (.lst ((nf c).map dP)))
theorem len_law_short (ds : List D) (x : XS) (R : Rt → Prop) (h : SP_law_short ds x R) : ds.length = ["_law_cord_here"].length := by
  obtain ⟨c, rfl, _⟩ := h; rfl
def W_law_short : WS :=
  (wSeqS (wsSetF 1 (wLst wNil))
  (wSeqS (wFor (wSeq (wVar 0)) (wgTup 2 (wgCons (wgName 2) (wgCons (wgName 3) wgNil)))
  (wSeqS (wIfS (wAnd (wtOn (wOp (gCmp fun i j => decide (j < i)) (wB gLen (wCons (wOwn 1) wNil)) (wC (.int 0)))) (wtOn (wOp (gEq false) (wOp gIdx (wOp gIdx (wOwn 1) (wUn (fun i => -i) (wC (.int 1)))) (wC (.int 0))) (wVar 2))))
  (wSeqS (wsSet 3 (wOp gAdd (wVar 3) (wOp gIdx (wOp gIdx (wOwn 1) (wUn (fun i => -i) (wC (.int 1)))) (wC (.int 1)))))
  (wMut 1 gPop0 wNil))
  wsNil)
  (wIfS (wtOn (wOp (gEq true) (wVar 3) (wC (.int 0))))
  (wMut 1 gApp (wCons (wTup (wCons (wVar 2) (wCons (wVar 3) wNil))) wNil))
  wsNil)))
  (wsRetOwn 1)))
theorem pure_law_short (ds : List D) (x : XS) (R : Rt → Prop) (h : SP_law_short ds x R) : W_law_short (endsOf R x) (startE 4 ds) := by
  obtain ⟨c, rfl, hl, q⟩ := h
  simp only [W_law_short, wVar, wOwn, wC, wOp, onBl, wtOn, wChain, trD, wtVal, wtNot, wAnd, wOr, wAndV, wOrV, wNotV, wIf, wNil, wCons, wTup, wLst, wUn, wNew, gAdd, gInt, gInt0, gMul, gCatF, gRepF, wOpF, gEq, gCmp, gInS, gIsN, isN, gIsB, gIdx, woNone, woSome, gSl, wSl, gSlF, wSlF, wB, wBF, gLen, gInt1, gInt2, gToInt, gListF, tyName, gIsT, wIsT, wCall, Rt.d, Cn.d, onNew, wCallF, wCallN, wCallNF, nlR, wgName, wgNil, wgCons, wgTup, wSeq, wSeqT, wSigns, wRng1, wRng2, wRng3, wRev, wEnum, wZip, wLc, wtYes, wsNil, wsBrk, wsCnt, wsExpr, wsRet, wsRetF, wsRetOwn, wsRetN, wIfS, wsSet, wsSetF, wsAsg, wsPar, wsAug, gApp, gExt, gPop0, gRev, wMut, wsSetIx, wFor, wsRaise, wSeqS, wFrz, wsCallM, wsPopAdd, endsOf, endM, endsM, startM, startE, wipeE, smallI, CPow, Br_true, Br_false, Br_not, rngD_eq, dC, dP, dI, ex_atI_map, atI0, atI1, atI2, kit1, kit2, kit3, kit4, kit5, kit6, kit7, kit8, kit9, kit10, kit11, kit12, kit13, kit14, kit15, kit16, kit17, kit18, kit19, kit20, kit21, kit22, kit23, kit24, kit25, kit26, kit27, kit28, kit29, kit30, kit31, kit32, kit33, kit34, kit35, sizeLine_eq, true_and, and_true, exists_eq_left', Option.some.injEq, List.map_cons, List.map_nil, List.length_cons, List.length_nil, List.length_map, List.length_append, List.cons_append, List.nil_append, List.set_cons_zero, List.set_cons_succ, List.getElem?_cons_zero, List.getElem?_cons_succ, List.getElem?_nil, Nat.reduceSub, Nat.reduceAdd, Nat.zero_add, Nat.sub_self, List.replicate_succ, List.replicate_zero, Bool.false_bne, Bool.true_bne, Bool.false_xor, Bool.true_xor, Bool.not_true, Bool.not_false, Bool.not_not, beq_self_eq_true, Bool.and_true, Bool.true_and, nl, nls, decide_true, decide_false, exists_eq_left, Bool.false_eq_true, Option.some_inj, Int.reduceToNat, Int.reducePow, Int.reduceMul, Int.reduceSub, Int.reduceAdd, Int.reduceNeg, Nat.reducePow, Nat.reduceLeDiff, Int.reduceLE, Int.reduceLT, Int.reduceAbs, Int.natAbs_neg, Nat.reduceLT, divW_eq, mulW_eq, Bool.or_true, Bool.true_or, cut_map, ← List.map_append, ← List.map_reverse, castN, eq_self, Int.reduceEq, deqC, deq_self, rep_map, nls_dP, wsAugIx, tx_cps, tx_len, tx_app, tx_one, tx_nil, tx_cut, tx_signs, tx_rep, lit_empty, tx_inj, wJoin, gJoin, wmCall, wmOpL, wmOpR, wmIxR, wmTup2, wsSetM, wsAppM, wForM, gSum, gAny, gAll, gLtD, gInT, gSorted, gAddT, wThaw, gMaxL, wsRetT, wsRetTF, wmApp, mutW, wNIf, wNIfM, wsNo, nestQ, wNest, isL, wsSetV]
  refine loop_ind (S := List Pc × Sl × Sl) dP (fun s => [.fz (.lst (c.map dP)), .own false (.lst (s.1.reverse.map dP)), s.2.1, s.2.2])
    (fun r s => r.foldl stk s.1 = c.foldl stk [] ∧ s.1.length + r.length ≤ c.length ∧ Red s.1) ?_ ?_ _ ([], .un, .un) ⟨rfl, by simp, trivial⟩
  · rintro ⟨st, s2, s3⟩ ⟨e, _⟩
    walk_at "s"
    simp only [List.foldl_nil] at e
    rw [e]
    have := short_nf c
    unfold short at this
    rw [this]
    exact q
  · rintro ⟨n, t⟩ r ⟨st, s2, s3⟩ L ⟨e, hb, hr⟩ ih
    simp only [List.length_cons, List.foldl_cons] at hb e hr
    have go : ∀ s2 s3, L [.fz (.lst (c.map dP)), .own false (.lst ((stk st (n, t)).reverse.map dP)), s2, s3] := fun s2 s3 => by
      refine ih (stk st (n, t), s2, s3) ⟨e, ?_, ps_red hr⟩
      have := stk_len [(n, t)] st
      simp at this ⊢
      omega
    unfold stk at go
    walk_at "s"
    cases st with
    | nil =>
      refine Br.f (by simp) ?_
      walk_at "s"
      refine Br.d (fun h0 => ?_) (fun h0 => ?_)
      · subst h0
        walk_at "s"
        have := go (.fz (.str n)) (.fz (.int 0))
        rw [ps_zero] at this
        exact this
      · walk_at "s"
        refine ⟨by simp, ?_⟩
        have := go (.fz (.str n)) (.fz (.int t))
        rw [ps_nil (p := (n, t)) h0] at this
        exact this
    | cons l u =>
      have e1 : atI (l :: u).reverse (-1) = some l := atI_rev1
      have hl0 : l.2 ≠ 0 := hr.head
      have hb' : u.length + 1 + (r.length + 1) ≤ c.length := by simpa using hb
      refine Br.t (by simp <;> omega) ?_
      walk_at "s"
      refine ⟨l, e1, Br.d (fun hn => ?_) (fun hn => ?_)⟩
      · walk_at "s"
        refine ⟨l, e1, by simp, Br.d (fun hs => ?_) (fun hs => ?_)⟩
        · walk_at "s"
          have h0 : t ≠ 0 := by omega
          have := go (.fz (.str n)) (.fz (.int (t + l.2)))
          rw [ps_gone (p := (n, t)) h0 hn hs] at this
          simpa using this
        · walk_at "s"
          refine ⟨by simp; omega, ?_⟩
          have := go (.fz (.str n)) (.fz (.int (t + l.2)))
          by_cases h0 : t = 0
          · subst h0
            rw [ps_zero] at this
            have el : l = (n, 0 + l.2) := Prod.ext hn (by simp)
            rw [el] at this
            simpa [dP] using this
          · rw [ps_same (p := (n, t)) h0 hn hs] at this
            simpa [dP] using this
      · walk_at "s"
        refine Br.d (fun h0 => ?_) (fun h0 => ?_)
        · subst h0
          walk_at "s"
          have := go (.fz (.str n)) (.fz (.int 0))
          rw [ps_zero] at this
          exact this
        · walk_at "s"
          refine ⟨by simp; omega, ?_⟩
          have := go (.fz (.str n)) (.fz (.int t))
          rw [ps_other (p := (n, t)) h0 hn] at this
          simpa [dP] using this
def zpw (t : Int) (g : List Pc) : List Pc := if t < 0 then pw (-t).toNat (con g) else pw t.toNat g
def SP_law_powered : Nat → Spec
  | 0 => fun _ _ _ => False
  | n + 1 => fun ds _ R => ∃ (g : List Pc) (t : Int), ds = [dC g, .int t] ∧ g.length ≤ 100000 ∧ (t < 0 → 1 ≤ n) ∧ t.natAbs < 2 ^ 200 ∧ (nf g = [] → t.natAbs < 1000000) ∧ (∀ b, Cyc b → Cj b g → 2 ≤ b.length → b.length * t.natAbs ≤ 100000) ∧ (∀ n, (exN n g).natAbs < 2 ^ 200) ∧ R (.new (.lst ((nf (zpw t g)).map dP)))
theorem len_law_powered (n : Nat) (ds : List D) (x : XS) (R : Rt → Prop) (h : SP_law_powered n ds x R) : ds.length = ["_law_root", "_law_times"].length := by
  cases n with
  | zero => exact h.elim
  | succ n => obtain ⟨g, t, rfl, _⟩ := h; rfl
theorem no_law_powered (ds : List D) (x : XS) (R : Rt → Prop) (h : SP_law_powered 0 ds x R) : False := h
def W_law_powered_5 (SPr : Spec) : WS :=
  (wsRetF (wCallF SP_law_short (wCons (wOp gAdd (wOp gAdd (wOwn 3) (wVar 2)) (wCallN SP_law_contrary (wCons (wOwn 3) wNil))) wNil)))
def W_law_powered_3 (SPr : Spec) : WS :=
  (wSeqS (wWhile (wAnd (wtOn (wOp (gCmp fun i j => decide (j < i)) (wB gLen (wCons (wVar 2) wNil)) (wC (.int 1)))) (wtOn (wOp (gEq false) (wOp gIdx (wOp gIdx (wVar 2) (wC (.int 0))) (wC (.int 0))) (wOp gIdx (wOp gIdx (wVar 2) (wUn (fun i => -i) (wC (.int 1)))) (wC (.int 0))))))
  (wSeqS (wMut 3 gApp (wCons (wOp gIdx (wVar 2) (wC (.int 0))) wNil))
  (wsSet 2 (wCall SP_law_short (wCons (wOp gAdd (wSl (wVar 2) (woSome (wC (.int 1))) woNone) (wNew (wLst (wCons (wOp gIdx (wVar 2) (wC (.int 0))) wNil)))) wNil)))))
  (wSeqS (wIfS (wtOn (wOp (gEq false) (wB gLen (wCons (wVar 2) wNil)) (wC (.int 1))))
  (wsSet 2 (wNew (wLst (wCons (wTup (wCons (wOp gIdx (wOp gIdx (wVar 2) (wC (.int 0))) (wC (.int 0))) (wCons (wOp gMul (wOp gIdx (wOp gIdx (wVar 2) (wC (.int 0))) (wC (.int 1))) (wVar 1)) wNil))) wNil))))
  (wsSet 2 (wOp gMul (wVar 2) (wVar 1))))
  (W_law_powered_5 SPr)))
def W_law_powered_1 (SPr : Spec) : WS :=
  (wSeqS (wsSet 2 (wCall SP_law_short (wCons (wVar 0) wNil)))
  (wSeqS (wsSetF 3 (wLst wNil))
  (W_law_powered_3 SPr)))
def W_law_powered (SPr : Spec) : WS :=
  (wSeqS (wIfS (wtOn (wOp (gCmp fun i j => decide (i < j)) (wVar 1) (wC (.int 0))))
  (wsRetF (wCallF SPr (wCons (wCall SP_law_contrary (wCons (wVar 0) wNil)) (wCons (wUn (fun i => -i) (wVar 1)) wNil))))
  wsNil)
  (W_law_powered_1 SPr))
theorem law_powered_5 {SPr : Spec} {R : Rt → Prop} {x : XS} {s0 s1 : Sl} {o z : List Pc} (hl : o.length + z.length ≤ 300000) (q : R (.new (.lst ((nf (o ++ z ++ con o)).map dP)))) :
    W_law_powered_5 SPr (endsOf R x) [s0, s1, .fz (dC z), .own false (.lst (o.map dP))] := by
  have cl : (con o).length = o.length := con_len o
  simp only [W_law_powered_5, wVar, wOwn, wC, wOp, onBl, wtOn, wChain, trD, wtVal, wtNot, wAnd, wOr, wAndV, wOrV, wNotV, wIf, wNil, wCons, wTup, wLst, wUn, wNew, gAdd, gInt, gInt0, gMul, gCatF, gRepF, wOpF, gEq, gCmp, gInS, gIsN, isN, gIsB, gIdx, woNone, woSome, gSl, wSl, gSlF, wSlF, wB, wBF, gLen, gInt1, gInt2, gToInt, gListF, tyName, gIsT, wIsT, wCall, Rt.d, Cn.d, onNew, wCallF, wCallN, wCallNF, nlR, wgName, wgNil, wgCons, wgTup, wSeq, wSeqT, wSigns, wRng1, wRng2, wRng3, wRev, wEnum, wZip, wLc, wtYes, wsNil, wsBrk, wsCnt, wsExpr, wsRet, wsRetF, wsRetOwn, wsRetN, wIfS, wsSet, wsSetF, wsAsg, wsPar, wsAug, gApp, gExt, gPop0, gRev, wMut, wsSetIx, wFor, wsRaise, wSeqS, wFrz, wsCallM, wsPopAdd, endsOf, endM, endsM, startM, startE, wipeE, smallI, CPow, Br_true, Br_false, Br_not, rngD_eq, dC, dP, dI, ex_atI_map, atI0, atI1, atI2, kit1, kit2, kit3, kit4, kit5, kit6, kit7, kit8, kit9, kit10, kit11, kit12, kit13, kit14, kit15, kit16, kit17, kit18, kit19, kit20, kit21, kit22, kit23, kit24, kit25, kit26, kit27, kit28, kit29, kit30, kit31, kit32, kit33, kit34, kit35, sizeLine_eq, true_and, and_true, exists_eq_left', Option.some.injEq, List.map_cons, List.map_nil, List.length_cons, List.length_nil, List.length_map, List.length_append, List.cons_append, List.nil_append, List.set_cons_zero, List.set_cons_succ, List.getElem?_cons_zero, List.getElem?_cons_succ, List.getElem?_nil, Nat.reduceSub, Nat.reduceAdd, Nat.zero_add, Nat.sub_self, List.replicate_succ, List.replicate_zero, Bool.false_bne, Bool.true_bne, Bool.false_xor, Bool.true_xor, Bool.not_true, Bool.not_false, Bool.not_not, beq_self_eq_true, Bool.and_true, Bool.true_and, nl, nls, decide_true, decide_false, exists_eq_left, Bool.false_eq_true, Option.some_inj, Int.reduceToNat, Int.reducePow, Int.reduceMul, Int.reduceSub, Int.reduceAdd, Int.reduceNeg, Nat.reducePow, Nat.reduceLeDiff, Int.reduceLE, Int.reduceLT, Int.reduceAbs, Int.natAbs_neg, Nat.reduceLT, divW_eq, mulW_eq, Bool.or_true, Bool.true_or, cut_map, ← List.map_append, ← List.map_reverse, castN, eq_self, Int.reduceEq, deqC, deq_self, rep_map, nls_dP, wsAugIx, tx_cps, tx_len, tx_app, tx_one, tx_nil, tx_cut, tx_signs, tx_rep, lit_empty, tx_inj, wJoin, gJoin, wmCall, wmOpL, wmOpR, wmIxR, wmTup2, wsSetM, wsAppM, wForM, gSum, gAny, gAll, gLtD, gInT, gSorted, gAddT, wThaw, gMaxL, wsRetT, wsRetTF, wmApp, mutW, wNIf, wNIfM, wsNo, nestQ, wNest, isL, wsSetV]
  refine ⟨by omega, o, rfl, by omega, ?_⟩
  walk_at "s"
  refine ⟨by omega, _, rfl, by simp only [List.length_append]; omega, ?_⟩
  walk_at "s"
  exact q
theorem law_powered_1 {SPr : Spec} {R : Rt → Prop} {x : XS} {g : List Pc} {t : Nat} (hl : g.length ≤ 100000) (t2 : t < 2 ^ 200) (t3 : nf g = [] → t < 1000000) (hf : ∀ b, Cyc b → Cj b g → 2 ≤ b.length → b.length * t ≤ 100000) (hb : ∀ n, (exN n g).natAbs < 2 ^ 200) (q : R (.new (.lst ((nf (pw t g)).map dP)))) :
    W_law_powered_1 SPr (endsOf R x) [.fz (dC g), .fz (.int (t : Nat)), .un, .un] := by
  simp only [W_law_powered_1, wVar, wOwn, wC, wOp, onBl, wtOn, wChain, trD, wtVal, wtNot, wAnd, wOr, wAndV, wOrV, wNotV, wIf, wNil, wCons, wTup, wLst, wUn, wNew, gAdd, gInt, gInt0, gMul, gCatF, gRepF, wOpF, gEq, gCmp, gInS, gIsN, isN, gIsB, gIdx, woNone, woSome, gSl, wSl, gSlF, wSlF, wB, wBF, gLen, gInt1, gInt2, gToInt, gListF, tyName, gIsT, wIsT, wCall, Rt.d, Cn.d, onNew, wCallF, wCallN, wCallNF, nlR, wgName, wgNil, wgCons, wgTup, wSeq, wSeqT, wSigns, wRng1, wRng2, wRng3, wRev, wEnum, wZip, wLc, wtYes, wsNil, wsBrk, wsCnt, wsExpr, wsRet, wsRetF, wsRetOwn, wsRetN, wIfS, wsSet, wsSetF, wsAsg, wsPar, wsAug, gApp, gExt, gPop0, gRev, wMut, wsSetIx, wFor, wsRaise, wSeqS, wFrz, wsCallM, wsPopAdd, endsOf, endM, endsM, startM, startE, wipeE, smallI, CPow, Br_true, Br_false, Br_not, rngD_eq, dC, dP, dI, ex_atI_map, atI0, atI1, atI2, kit1, kit2, kit3, kit4, kit5, kit6, kit7, kit8, kit9, kit10, kit11, kit12, kit13, kit14, kit15, kit16, kit17, kit18, kit19, kit20, kit21, kit22, kit23, kit24, kit25, kit26, kit27, kit28, kit29, kit30, kit31, kit32, kit33, kit34, kit35, sizeLine_eq, true_and, and_true, exists_eq_left', Option.some.injEq, List.map_cons, List.map_nil, List.length_cons, List.length_nil, List.length_map, List.length_append, List.cons_append, List.nil_append, List.set_cons_zero, List.set_cons_succ, List.getElem?_cons_zero, List.getElem?_cons_succ, List.getElem?_nil, Nat.reduceSub, Nat.reduceAdd, Nat.zero_add, Nat.sub_self, List.replicate_succ, List.replicate_zero, Bool.false_bne, Bool.true_bne, Bool.false_xor, Bool.true_xor, Bool.not_true, Bool.not_false, Bool.not_not, beq_self_eq_true, Bool.and_true, Bool.true_and, nl, nls, decide_true, decide_false, exists_eq_left, Bool.false_eq_true, Option.some_inj, Int.reduceToNat, Int.reducePow, Int.reduceMul, Int.reduceSub, Int.reduceAdd, Int.reduceNeg, Nat.reducePow, Nat.reduceLeDiff, Int.reduceLE, Int.reduceLT, Int.reduceAbs, Int.natAbs_neg, Nat.reduceLT, divW_eq, mulW_eq, Bool.or_true, Bool.true_or, cut_map, ← List.map_append, ← List.map_reverse, castN, eq_self, Int.reduceEq, deqC, deq_self, rep_map, nls_dP, wsAugIx, tx_cps, tx_len, tx_app, tx_one, tx_nil, tx_cut, tx_signs, tx_rep, lit_empty, tx_inj, wJoin, gJoin, wmCall, wmOpL, wmOpR, wmIxR, wmTup2, wsSetM, wsAppM, wForM, gSum, gAny, gAll, gLtD, gInT, gSorted, gAddT, wThaw, gMaxL, wsRetT, wsRetTF, wmApp, mutW, wNIf, wNIfM, wsNo, nestQ, wNest, isL, wsSetV]
  refine ⟨g, rfl, by omega, ?_⟩
  walk_at "s"
  have gl := nf_len g
  simp only [W_law_powered_3, wVar, wOwn, wC, wOp, onBl, wtOn, wChain, trD, wtVal, wtNot, wAnd, wOr, wAndV, wOrV, wNotV, wIf, wNil, wCons, wTup, wLst, wUn, wNew, gAdd, gInt, gInt0, gMul, gCatF, gRepF, wOpF, gEq, gCmp, gInS, gIsN, isN, gIsB, gIdx, woNone, woSome, gSl, wSl, gSlF, wSlF, wB, wBF, gLen, gInt1, gInt2, gToInt, gListF, tyName, gIsT, wIsT, wCall, Rt.d, Cn.d, onNew, wCallF, wCallN, wCallNF, nlR, wgName, wgNil, wgCons, wgTup, wSeq, wSeqT, wSigns, wRng1, wRng2, wRng3, wRev, wEnum, wZip, wLc, wtYes, wsNil, wsBrk, wsCnt, wsExpr, wsRet, wsRetF, wsRetOwn, wsRetN, wIfS, wsSet, wsSetF, wsAsg, wsPar, wsAug, gApp, gExt, gPop0, gRev, wMut, wsSetIx, wFor, wsRaise, wSeqS, wFrz, wsCallM, wsPopAdd, endsOf, endM, endsM, startM, startE, wipeE, smallI, CPow, Br_true, Br_false, Br_not, rngD_eq, dC, dP, dI, ex_atI_map, atI0, atI1, atI2, kit1, kit2, kit3, kit4, kit5, kit6, kit7, kit8, kit9, kit10, kit11, kit12, kit13, kit14, kit15, kit16, kit17, kit18, kit19, kit20, kit21, kit22, kit23, kit24, kit25, kit26, kit27, kit28, kit29, kit30, kit31, kit32, kit33, kit34, kit35, sizeLine_eq, true_and, and_true, exists_eq_left', Option.some.injEq, List.map_cons, List.map_nil, List.length_cons, List.length_nil, List.length_map, List.length_append, List.cons_append, List.nil_append, List.set_cons_zero, List.set_cons_succ, List.getElem?_cons_zero, List.getElem?_cons_succ, List.getElem?_nil, Nat.reduceSub, Nat.reduceAdd, Nat.zero_add, Nat.sub_self, List.replicate_succ, List.replicate_zero, Bool.false_bne, Bool.true_bne, Bool.false_xor, Bool.true_xor, Bool.not_true, Bool.not_false, Bool.not_not, beq_self_eq_true, Bool.and_true, Bool.true_and, nl, nls, decide_true, decide_false, exists_eq_left, Bool.false_eq_true, Option.some_inj, Int.reduceToNat, Int.reducePow, Int.reduceMul, Int.reduceSub, Int.reduceAdd, Int.reduceNeg, Nat.reducePow, Nat.reduceLeDiff, Int.reduceLE, Int.reduceLT, Int.reduceAbs, Int.natAbs_neg, Nat.reduceLT, divW_eq, mulW_eq, Bool.or_true, Bool.true_or, cut_map, ← List.map_append, ← List.map_reverse, castN, eq_self, Int.reduceEq, deqC, deq_self, rep_map, nls_dP, wsAugIx, tx_cps, tx_len, tx_app, tx_one, tx_nil, tx_cut, tx_signs, tx_rep, lit_empty, tx_inj, wJoin, gJoin, wmCall, wmOpL, wmOpR, wmIxR, wmTup2, wsSetM, wsAppM, wForM, gSum, gAny, gAll, gLtD, gInT, gSorted, gAddT, wThaw, gMaxL, wsRetT, wsRetTF, wmApp, mutW, wNIf, wNIfM, wsNo, nestQ, wNest, isL, wsSetV]
  refine while_ind (S := List Pc × List Pc) (fun s => [.fz (.lst (g.map dP)), .fz (.int (t : Nat)), .fz (.lst (s.1.map dP)), .own false (.lst (s.2.map dP))]) (fun m s => m = s.1.length ∧ Red s.1 ∧ nf (s.2 ++ s.1 ++ con s.2) = nf g ∧ s.2.length + s.1.length ≤ g.length) ?_ (nf g).length (nf g, []) ⟨rfl, nf_red g, by simp [con, nf_nf], by simp; omega⟩
  rintro m ⟨s, o⟩ L ⟨h1, h2, h3, h4⟩ ih
  simp only at h1 h2 h3 h4
  have e : nf (o ++ pw t s ++ con o) = nf (pw t g) := by
    rw [(eqv_pw o s t).nf]
    exact (pw_congr (eqv_iff'.mpr h3) t).nf
  walk_at "s"
  rcases s with _ | ⟨p, tt⟩
  · refine Br.f (by simp) ?_
    walk_at "s"
    have t4 := t3 (by rw [← h3, List.append_nil, nf_con])
    refine ⟨⟨by omega, by omega⟩, ?_⟩
    rw [pw_nil] at e
    have z : (List.replicate (t : Int).toNat ([] : List Pc)).flatten = [] := by simp
    try simp only [Int.toNat_natCast] at z ⊢
    have z2 : (List.replicate t ([] : List D)).flatten = [] := by simp
    try rw [z2]
    exact law_powered_5 (z := []) (by simp; omega) (by rw [e]; exact q)
  rcases List.eq_nil_or_concat tt with z | ⟨m', l, z⟩
  · subst z
    obtain ⟨n, v⟩ := p
    have vb : v.natAbs < 2 ^ 200 := by
      have h5 := led_ex n h3
      have h6 : exN n [(n, v)] = v := by simp [exN]
      have h7 := hb n
      rw [← h5, h6] at h7
      exact h7
    refine Br.f (by simp) ?_
    walk_at "s"
    refine ⟨mulWn (a := 200) (b := 200) (by omega) (by omega) (by omega), ?_⟩
    have h4' : o.length + 1 ≤ g.length := h4
    refine law_powered_5 (z := [(n, v * (t : Int))]) (by simp; omega) ?_
    rw [show nf (o ++ [(n, v * (t : Int))] ++ con o) = nf (pw t g) by rw [← e]; exact nf_mid o (con o) (eqv_pw1 n v t).symm]
    exact q
  rw [List.concat_eq_append] at z
  subst z
  simp only [List.length_cons, List.length_append, List.length_nil] at h1 h4
  refine Br.t (by simp; omega) ?_
  have i1 : atI (p :: (m' ++ [l])) 0 = some p := atI0
  have i2 : atI (p :: (m' ++ [l])) (-1) = some l := by
    rw [atI_neg1, ← List.cons_append, List.getLast?_append]; rfl
  have ec : cut (p :: (m' ++ [l])) (some 1) none = m' ++ [l] := by rw [cut_from (by omega)]; rfl
  refine ⟨.tup [.str p.1, .int p.2], by rw [atI_map, i1]; rfl, ?_⟩
  walk_at "s"
  refine ⟨.tup [.str l.1, .int l.2], by show atI (List.map dP (p :: (m' ++ [l]))) (-1) = _; rw [atI_map, i2]; rfl, ?_⟩
  walk_at "s"
  refine Br.d (fun he => ?_) (fun he => ?_)
  · have el : nf (m' ++ [l, p]) = nf (m' ++ [(p.1, l.2 + p.2)]) := by
      obtain ⟨n1, t1⟩ := p
      obtain ⟨n2, t2⟩ := l
      simp only at he
      subst he
      rw [nf_app, nf_app]
      congr 1
      exact ps_ps (w := []) trivial
    have h6 := nf_len (m' ++ [((p.1, l.2 + p.2) : Pc)])
    simp only [List.length_append, List.length_singleton] at h6
    have e3 : nf ((o ++ [p]) ++ nf (m' ++ [l, p]) ++ con (o ++ [p])) = nf g := by
      rw [nf_mid (o ++ [p]) (con (o ++ [p])) (eqv_nf (m' ++ [l, p])).symm, ← h3, con_app]
      have := nf_mid (o ++ p :: (m' ++ [l])) (con o) (eqv_one p)
      simpa using this
    have d1 : atI (List.map dP (p :: (m' ++ [l]))) 0 = some (dP p) := by rw [atI_map, i1]; rfl
    have hz : (m' ++ [l]).map dP ++ [dP p] = (m' ++ [l, p]).map dP := by simp
    have hz2 : o.map dP ++ [dP p] = (o ++ [p]).map dP := by simp
    refine ⟨dP p, d1, by rw [sizeLine_eq, List.length_map]; omega, dP p, d1, by rw [sizeLine_eq]; omega, ?_⟩
    rw [cut_map, ec, hz, hz2]
    refine ⟨by rw [sizeLine_eq]; simp; omega, m' ++ [l, p], rfl, by simp; omega, ?_⟩
    exact ih (nf (m' ++ [l, p])).length (_, _) (by rw [el]; omega) ⟨rfl, nf_red _, e3, by show (o ++ [p]).length + (nf (m' ++ [l, p])).length ≤ g.length; rw [el]; simp; omega⟩
  · have cy : Cyc (p :: (m' ++ [l])) := ⟨h2, fun _ a b ha hb => by
      simp only [List.head?_cons, Option.some.injEq] at ha
      rw [← List.cons_append, List.getLast?_append] at hb
      simp only [List.getLast?_singleton, Option.some_or, Option.some.injEq] at hb
      subst ha hb
      exact he⟩
    have hf' := hf _ cy ⟨o, h3⟩ (by simp)
    have pl := pw_len t (p :: (m' ++ [l]))
    rw [Nat.mul_comm] at pl
    have h5 : o.length + (p :: (m' ++ [l])).length ≤ g.length := by simp; omega
    obtain ⟨s, hs⟩ : ∃ s, p :: (m' ++ [l]) = s := ⟨_, rfl⟩
    have s2 : 2 ≤ s.length := by rw [← hs]; simp
    rw [hs] at hf' pl e h5 ⊢
    have ht : t ≤ 100000 := by
      have : 1 * t ≤ s.length * t := Nat.mul_le_mul_right _ (by omega)
      omega
    walk_at "s"
    refine Br.f (by omega) ?_
    walk_at "s"
    try simp only [Int.toNat_natCast]
    refine ⟨⟨by omega, by omega, by omega⟩, ?_⟩
    refine law_powered_5 (z := pw t s) (by omega) ?_
    rw [e]
    exact q
theorem con_cyc_lim {g : List Pc} {t : Nat} (hf : ∀ b, Cyc b → Cj b g → 2 ≤ b.length → b.length * t ≤ 100000) : ∀ b, Cyc b → Cj b (con g) → 2 ≤ b.length → b.length * t ≤ 100000 := fun b cb cj h2 => by
  obtain ⟨u, hu⟩ := cj
  have h := hf (con b) cb.con ⟨u, by
    have := eqv_con_congr (eqv_iff'.mpr hu)
    rw [con_led, con_con] at this
    exact this.nf⟩ (by rw [con_len]; exact h2)
  rw [con_len] at h
  exact h
theorem pure_law_powered (n : Nat) (ds : List D) (x : XS) (R : Rt → Prop) (h : SP_law_powered (n + 1) ds x R) : W_law_powered (SP_law_powered n) (endsOf R x) (startE 4 ds) := by
  obtain ⟨g, t, rfl, hl, hn, t2, t3, hf, hb, q⟩ := h
  simp only [W_law_powered, wVar, wOwn, wC, wOp, onBl, wtOn, wChain, trD, wtVal, wtNot, wAnd, wOr, wAndV, wOrV, wNotV, wIf, wNil, wCons, wTup, wLst, wUn, wNew, gAdd, gInt, gInt0, gMul, gCatF, gRepF, wOpF, gEq, gCmp, gInS, gIsN, isN, gIsB, gIdx, woNone, woSome, gSl, wSl, gSlF, wSlF, wB, wBF, gLen, gInt1, gInt2, gToInt, gListF, tyName, gIsT, wIsT, wCall, Rt.d, Cn.d, onNew, wCallF, wCallN, wCallNF, nlR, wgName, wgNil, wgCons, wgTup, wSeq, wSeqT, wSigns, wRng1, wRng2, wRng3, wRev, wEnum, wZip, wLc, wtYes, wsNil, wsBrk, wsCnt, wsExpr, wsRet, wsRetF, wsRetOwn, wsRetN, wIfS, wsSet, wsSetF, wsAsg, wsPar, wsAug, gApp, gExt, gPop0, gRev, wMut, wsSetIx, wFor, wsRaise, wSeqS, wFrz, wsCallM, wsPopAdd, endsOf, endM, endsM, startM, startE, wipeE, smallI, CPow, Br_true, Br_false, Br_not, rngD_eq, dC, dP, dI, ex_atI_map, atI0, atI1, atI2, kit1, kit2, kit3, kit4, kit5, kit6, kit7, kit8, kit9, kit10, kit11, kit12, kit13, kit14, kit15, kit16, kit17, kit18, kit19, kit20, kit21, kit22, kit23, kit24, kit25, kit26, kit27, kit28, kit29, kit30, kit31, kit32, kit33, kit34, kit35, sizeLine_eq, true_and, and_true, exists_eq_left', Option.some.injEq, List.map_cons, List.map_nil, List.length_cons, List.length_nil, List.length_map, List.length_append, List.cons_append, List.nil_append, List.set_cons_zero, List.set_cons_succ, List.getElem?_cons_zero, List.getElem?_cons_succ, List.getElem?_nil, Nat.reduceSub, Nat.reduceAdd, Nat.zero_add, Nat.sub_self, List.replicate_succ, List.replicate_zero, Bool.false_bne, Bool.true_bne, Bool.false_xor, Bool.true_xor, Bool.not_true, Bool.not_false, Bool.not_not, beq_self_eq_true, Bool.and_true, Bool.true_and, nl, nls, decide_true, decide_false, exists_eq_left, Bool.false_eq_true, Option.some_inj, Int.reduceToNat, Int.reducePow, Int.reduceMul, Int.reduceSub, Int.reduceAdd, Int.reduceNeg, Nat.reducePow, Nat.reduceLeDiff, Int.reduceLE, Int.reduceLT, Int.reduceAbs, Int.natAbs_neg, Nat.reduceLT, divW_eq, mulW_eq, Bool.or_true, Bool.true_or, cut_map, ← List.map_append, ← List.map_reverse, castN, eq_self, Int.reduceEq, deqC, deq_self, rep_map, nls_dP, wsAugIx, tx_cps, tx_len, tx_app, tx_one, tx_nil, tx_cut, tx_signs, tx_rep, lit_empty, tx_inj, wJoin, gJoin, wmCall, wmOpL, wmOpR, wmIxR, wmTup2, wsSetM, wsAppM, wForM, gSum, gAny, gAll, gLtD, gInT, gSorted, gAddT, wThaw, gMaxL, wsRetT, wsRetTF, wmApp, mutW, wNIf, wNIfM, wsNo, nestQ, wNest, isL, wsSetV]
  refine Br.d (fun h => ?_) (fun h => ?_)
  · walk_at "s"
    refine ⟨g, rfl, by omega, ?_⟩
    walk_at "s"
    have h1 := hn h
    obtain ⟨n, rfl⟩ : ∃ m, n = m + 1 := ⟨n - 1, by omega⟩
    refine ⟨con g, -t, rfl, by rw [con_len]; exact hl, fun z => by omega, by omega, fun z => by rw [Int.natAbs_neg]; exact t3 (by rw [nf_con_nf] at z; have := congrArg List.length z; rw [con_len] at this; exact List.length_eq_zero_iff.mp this), ?_, fun n => by rw [exN_con]; have := hb n; omega, ?_⟩
    · have := con_cyc_lim hf
      rw [Int.natAbs_neg]
      exact this
    · have e : zpw (-t) (con g) = zpw t g := by
        unfold zpw
        rw [if_neg (by omega), if_pos h]
      rw [e]
      walk_at "s"
      exact q
  · walk_at "s"
    obtain ⟨k, rfl⟩ : ∃ k : Nat, t = k := ⟨t.toNat, by omega⟩
    have e : zpw (k : Int) g = pw k g := by
      unfold zpw
      rw [if_neg (by omega), Int.toNat_natCast]
    rw [e] at q
    rw [Int.natAbs_natCast] at t2 t3 hf
    exact law_powered_1 hl t2 t3 hf hb q
def SP_put_behind : SpecM := fun xs ds R => ∃ (st : List Pc) (n : Str) (t : Int), xs = st.reverse.map dP ∧ ds = [.str n, .int t] ∧ st.length < 16777216 ∧ R ((stk st (n, t)).reverse.map dP) .non
theorem len_put_behind (xs ds : List D) (R : List D → D → Prop) (h : SP_put_behind xs ds R) : ds.length + 1 = ["runs", "nail", "turns"].length := by
  obtain ⟨st, n, t, _, rfl, _⟩ := h; rfl
def W_put_behind : WS :=
  (wSeqS (wIfS (wtOn (wOp (gEq false) (wVar 2) (wC (.int 0))))
  wsRetN
  wsNil)
  (wSeqS (wIfS (wAnd (wtOn (wOp (gCmp fun i j => decide (j < i)) (wB gLen (wCons (wOwn 0) wNil)) (wC (.int 0)))) (wtOn (wOp (gEq false) (wOp gIdx (wOp gIdx (wOwn 0) (wUn (fun i => -i) (wC (.int 1)))) (wC (.int 0))) (wVar 1))))
  (wSeqS (wsAug 2 (gInt0 fun i j => i + j) (wOp gIdx (wOp gIdx (wOwn 0) (wUn (fun i => -i) (wC (.int 1)))) (wC (.int 1))))
  (wMut 0 gPop0 wNil))
  wsNil)
  (wIfS (wtOn (wOp (gEq true) (wVar 2) (wC (.int 0))))
  (wMut 0 gApp (wCons (wTup (wCons (wVar 1) (wCons (wVar 2) wNil))) wNil))
  wsNil)))
theorem pure_put_behind (xs ds : List D) (R : List D → D → Prop) (h : SP_put_behind xs ds R) : W_put_behind (endsM R) (startM 3 xs ds) := by
  obtain ⟨st, n, t, rfl, rfl, hl, q⟩ := h
  unfold stk at q
  simp only [W_put_behind, wVar, wOwn, wC, wOp, onBl, wtOn, wChain, trD, wtVal, wtNot, wAnd, wOr, wAndV, wOrV, wNotV, wIf, wNil, wCons, wTup, wLst, wUn, wNew, gAdd, gInt, gInt0, gMul, gCatF, gRepF, wOpF, gEq, gCmp, gInS, gIsN, isN, gIsB, gIdx, woNone, woSome, gSl, wSl, gSlF, wSlF, wB, wBF, gLen, gInt1, gInt2, gToInt, gListF, tyName, gIsT, wIsT, wCall, Rt.d, Cn.d, onNew, wCallF, wCallN, wCallNF, nlR, wgName, wgNil, wgCons, wgTup, wSeq, wSeqT, wSigns, wRng1, wRng2, wRng3, wRev, wEnum, wZip, wLc, wtYes, wsNil, wsBrk, wsCnt, wsExpr, wsRet, wsRetF, wsRetOwn, wsRetN, wIfS, wsSet, wsSetF, wsAsg, wsPar, wsAug, gApp, gExt, gPop0, gRev, wMut, wsSetIx, wFor, wsRaise, wSeqS, wFrz, wsCallM, wsPopAdd, endsOf, endM, endsM, startM, startE, wipeE, smallI, CPow, Br_true, Br_false, Br_not, rngD_eq, dC, dP, dI, ex_atI_map, atI0, atI1, atI2, kit1, kit2, kit3, kit4, kit5, kit6, kit7, kit8, kit9, kit10, kit11, kit12, kit13, kit14, kit15, kit16, kit17, kit18, kit19, kit20, kit21, kit22, kit23, kit24, kit25, kit26, kit27, kit28, kit29, kit30, kit31, kit32, kit33, kit34, kit35, sizeLine_eq, true_and, and_true, exists_eq_left', Option.some.injEq, List.map_cons, List.map_nil, List.length_cons, List.length_nil, List.length_map, List.length_append, List.cons_append, List.nil_append, List.set_cons_zero, List.set_cons_succ, List.getElem?_cons_zero, List.getElem?_cons_succ, List.getElem?_nil, Nat.reduceSub, Nat.reduceAdd, Nat.zero_add, Nat.sub_self, List.replicate_succ, List.replicate_zero, Bool.false_bne, Bool.true_bne, Bool.false_xor, Bool.true_xor, Bool.not_true, Bool.not_false, Bool.not_not, beq_self_eq_true, Bool.and_true, Bool.true_and, nl, nls, decide_true, decide_false, exists_eq_left, Bool.false_eq_true, Option.some_inj, Int.reduceToNat, Int.reducePow, Int.reduceMul, Int.reduceSub, Int.reduceAdd, Int.reduceNeg, Nat.reducePow, Nat.reduceLeDiff, Int.reduceLE, Int.reduceLT, Int.reduceAbs, Int.natAbs_neg, Nat.reduceLT, divW_eq, mulW_eq, Bool.or_true, Bool.true_or, cut_map, ← List.map_append, ← List.map_reverse, castN, eq_self, Int.reduceEq, deqC, deq_self, rep_map, nls_dP, wsAugIx, tx_cps, tx_len, tx_app, tx_one, tx_nil, tx_cut, tx_signs, tx_rep, lit_empty, tx_inj, wJoin, gJoin, wmCall, wmOpL, wmOpR, wmIxR, wmTup2, wsSetM, wsAppM, wForM, gSum, gAny, gAll, gLtD, gInT, gSorted, gAddT, wThaw, gMaxL, wsRetT, wsRetTF, wmApp, mutW, wNIf, wNIfM, wsNo, nestQ, wNest, isL, wsSetV]
  refine Br.d (fun h0 => ?_) (fun h0 => ?_)
  · subst h0; rw [ps_zero] at q; walk_at "s"; exact q
  walk_at "s"
  cases st with
  | nil =>
    rw [ps_nil (p := (n, t)) h0] at q
    refine Br.f (by simp) ?_
    walk_at "s"
    refine Br.f h0 ?_
    walk_at "s"
    exact ⟨by simp, q⟩
  | cons l r =>
    have e1 : atI (l :: r).reverse (-1) = some l := atI_rev1
    refine Br.t (show (0 : Int) < ((l :: r).reverse.length : Nat) by rw [List.length_reverse, List.length_cons]; omega) ?_
    walk_at "s"
    refine ⟨l, e1, Br.d (fun hn => ?_) (fun hn => ?_)⟩
    · walk_at "s"
      refine ⟨l, e1, by simp, Br.d (fun hs => ?_) (fun hs => ?_)⟩
      · walk_at "s"
        rw [ps_gone (p := (n, t)) h0 hn hs] at q
        simpa using q
      · walk_at "s"
        rw [ps_same (p := (n, t)) h0 hn hs] at q
        exact ⟨by simp; simp at hl; omega, by simpa [dP] using q⟩
    · walk_at "s"
      rw [ps_other (p := (n, t)) h0 hn] at q
      refine Br.f h0 ?_
      walk_at "s"
      exact ⟨by rw [List.length_reverse]; exact hl, by simpa [dP] using q⟩
def SP_short_form : Spec := fun ds _ R => ∃ c : List Pc, ds = [dC c] ∧ c.length < 16777216 ∧ R (.new (.lst ((nf c).map dP)))
theorem len_short_form (ds : List D) (x : XS) (R : Rt → Prop) (h : SP_short_form ds x R) : ds.length = ["cord"].length := by
  obtain ⟨c, rfl, _⟩ := h; rfl
def W_short_form : WS :=
  (wSeqS (wsSetF 1 (wLst wNil))
  (wSeqS (wFor (wSeq (wVar 0)) (wgTup 2 (wgCons (wgName 2) (wgCons (wgName 3) wgNil)))
  (wsCallM 1 SP_put_behind (wCons (wVar 2) (wCons (wVar 3) wNil))))
  (wsRetOwn 1)))
theorem pure_short_form (ds : List D) (x : XS) (R : Rt → Prop) (h : SP_short_form ds x R) : W_short_form (endsOf R x) (startE 4 ds) := by
  obtain ⟨c, rfl, hl, q⟩ := h
  simp only [W_short_form, wVar, wOwn, wC, wOp, onBl, wtOn, wChain, trD, wtVal, wtNot, wAnd, wOr, wAndV, wOrV, wNotV, wIf, wNil, wCons, wTup, wLst, wUn, wNew, gAdd, gInt, gInt0, gMul, gCatF, gRepF, wOpF, gEq, gCmp, gInS, gIsN, isN, gIsB, gIdx, woNone, woSome, gSl, wSl, gSlF, wSlF, wB, wBF, gLen, gInt1, gInt2, gToInt, gListF, tyName, gIsT, wIsT, wCall, Rt.d, Cn.d, onNew, wCallF, wCallN, wCallNF, nlR, wgName, wgNil, wgCons, wgTup, wSeq, wSeqT, wSigns, wRng1, wRng2, wRng3, wRev, wEnum, wZip, wLc, wtYes, wsNil, wsBrk, wsCnt, wsExpr, wsRet, wsRetF, wsRetOwn, wsRetN, wIfS, wsSet, wsSetF, wsAsg, wsPar, wsAug, gApp, gExt, gPop0, gRev, wMut, wsSetIx, wFor, wsRaise, wSeqS, wFrz, wsCallM, wsPopAdd, endsOf, endM, endsM, startM, startE, wipeE, smallI, CPow, Br_true, Br_false, Br_not, rngD_eq, dC, dP, dI, ex_atI_map, atI0, atI1, atI2, kit1, kit2, kit3, kit4, kit5, kit6, kit7, kit8, kit9, kit10, kit11, kit12, kit13, kit14, kit15, kit16, kit17, kit18, kit19, kit20, kit21, kit22, kit23, kit24, kit25, kit26, kit27, kit28, kit29, kit30, kit31, kit32, kit33, kit34, kit35, sizeLine_eq, true_and, and_true, exists_eq_left', Option.some.injEq, List.map_cons, List.map_nil, List.length_cons, List.length_nil, List.length_map, List.length_append, List.cons_append, List.nil_append, List.set_cons_zero, List.set_cons_succ, List.getElem?_cons_zero, List.getElem?_cons_succ, List.getElem?_nil, Nat.reduceSub, Nat.reduceAdd, Nat.zero_add, Nat.sub_self, List.replicate_succ, List.replicate_zero, Bool.false_bne, Bool.true_bne, Bool.false_xor, Bool.true_xor, Bool.not_true, Bool.not_false, Bool.not_not, beq_self_eq_true, Bool.and_true, Bool.true_and, nl, nls, decide_true, decide_false, exists_eq_left, Bool.false_eq_true, Option.some_inj, Int.reduceToNat, Int.reducePow, Int.reduceMul, Int.reduceSub, Int.reduceAdd, Int.reduceNeg, Nat.reducePow, Nat.reduceLeDiff, Int.reduceLE, Int.reduceLT, Int.reduceAbs, Int.natAbs_neg, Nat.reduceLT, divW_eq, mulW_eq, Bool.or_true, Bool.true_or, cut_map, ← List.map_append, ← List.map_reverse, castN, eq_self, Int.reduceEq, deqC, deq_self, rep_map, nls_dP, wsAugIx, tx_cps, tx_len, tx_app, tx_one, tx_nil, tx_cut, tx_signs, tx_rep, lit_empty, tx_inj, wJoin, gJoin, wmCall, wmOpL, wmOpR, wmIxR, wmTup2, wsSetM, wsAppM, wForM, gSum, gAny, gAll, gLtD, gInT, gSorted, gAddT, wThaw, gMaxL, wsRetT, wsRetTF, wmApp, mutW, wNIf, wNIfM, wsNo, nestQ, wNest, isL, wsSetV]
  refine loop_ind (S := List Pc × Sl × Sl) dP (fun s => [.fz (.lst (c.map dP)), .own false (.lst (s.1.reverse.map dP)), s.2.1, s.2.2])
    (fun r s => r.foldl stk s.1 = c.foldl stk [] ∧ s.1.length + r.length ≤ c.length) ?_ ?_ _ ([], .un, .un) ⟨rfl, by simp⟩
  · rintro ⟨st, s2, s3⟩ ⟨e, _⟩
    walk_at "s"
    simp only [List.foldl_nil] at e
    rw [e]
    have := short_nf c
    unfold short at this
    rw [this]
    exact q
  · rintro p r ⟨st, s2, s3⟩ L ⟨e, hb⟩ ih
    simp only [List.length_cons] at hb
    walk_at "s"
    refine ⟨st, p.1, p.2, rfl, rfl, by omega, ih (stk st p, _, _) ⟨e, ?_⟩⟩
    have := stk_len [p] st
    simp at this ⊢
    omega
def SP_loosened : Spec := fun ds _ R => ∃ c : List Pc, ds = [dC c] ∧ c.length ≤ 100000 ∧ ∀ o i : List Pc, Red o → Red i → nf (o ++ i ++ con o) = nf c → o.length + i.length ≤ c.length → (2 ≤ i.length → ∀ p q, i.head? = some p → i.getLast? = some q → p.1 ≠ q.1) → (∀ p ∈ o ++ i, ∃ z ∈ c, p.1 = z.1) → R (.val (.tup [dC o, dC i]))
theorem len_loosened (ds : List D) (x : XS) (R : Rt → Prop) (h : SP_loosened ds x R) : ds.length = ["cord"].length := by
  obtain ⟨c, rfl, _⟩ := h; rfl
def W_loosened : WS :=
  (wSeqS (wsSetF 1 (wCallF SP_short_form (wCons (wVar 0) wNil)))
  (wSeqS (wsSetF 2 (wLst wNil))
  (wSeqS (wsSet 3 (wC (.int 0)))
  (wSeqS (wsSet 4 (wOp (gInt0 fun i j => i - j) (wB gLen (wCons (wOwn 1) wNil)) (wC (.int 1))))
  (wSeqS (wWhile (wAnd (wtOn (wOp (gCmp fun i j => decide (i < j)) (wVar 3) (wVar 4))) (wtOn (wOp (gEq false) (wOp gIdx (wOp gIdx (wOwn 1) (wVar 3)) (wC (.int 0))) (wOp gIdx (wOp gIdx (wOwn 1) (wVar 4)) (wC (.int 0))))))
  (wSeqS (wsSet 5 (wOp gIdx (wOwn 1) (wVar 3)))
  (wSeqS (wMut 2 gApp (wCons (wVar 5) wNil))
  (wSeqS (wsSet 6 (wOp gAdd (wOp gIdx (wVar 5) (wC (.int 1))) (wOp gIdx (wOp gIdx (wOwn 1) (wVar 4)) (wC (.int 1)))))
  (wSeqS (wsSet 3 (wOp gAdd (wVar 3) (wC (.int 1))))
  (wSeqS (wIfS (wtOn (wOp (gEq true) (wVar 6) (wC (.int 0))))
  (wSeqS (wsSetIx 1 (wTup (wCons (wOp gIdx (wVar 5) (wC (.int 0))) (wCons (wVar 6) wNil))) (wVar 4))
  wsBrk)
  wsNil)
  (wsSet 4 (wOp (gInt0 fun i j => i - j) (wVar 4) (wC (.int 1))))))))))
  (wFrz 2 (wsRet (wTup (wCons (wVar 2) (wCons (wSl (wOwn 1) (woSome (wVar 3)) (woSome (wOp gAdd (wVar 4) (wC (.int 1))))) wNil))))))))))
theorem red_drop : ∀ {o mid : List Pc}, Red (o ++ mid) → Red mid
  | [], _, h => h
  | p :: o, mid, h => red_drop (o := o) h.tail
theorem red_take : ∀ {o mid : List Pc}, Red (o ++ mid) → Red o
  | [], _, _ => trivial
  | [p], mid, h => by
    cases mid with
    | nil => exact h
    | cons q r => exact h.1
  | p :: q :: o, mid, h => ⟨h.1, h.2.1, red_take (o := q :: o) h.2.2⟩
theorem red_last : ∀ {a : List Pc} {g g' : Pc}, Red (a ++ [g]) → g'.1 = g.1 → g'.2 ≠ 0 → Red (a ++ [g'])
  | [], g, g', _, _, h => h
  | [p], g, g', hr, e, h => ⟨hr.1, by rw [e]; exact hr.2.1, h⟩
  | p :: q :: a, g, g', hr, e, h => ⟨hr.1, hr.2.1, red_last (a := q :: a) hr.2.2 e h⟩
theorem pure_loosened (ds : List D) (x : XS) (R : Rt → Prop) (h : SP_loosened ds x R) : W_loosened (endsOf R x) (startE 7 ds) := by
  obtain ⟨c, rfl, hl, q⟩ := h
  simp only [W_loosened, wVar, wOwn, wC, wOp, onBl, wtOn, wChain, trD, wtVal, wtNot, wAnd, wOr, wAndV, wOrV, wNotV, wIf, wNil, wCons, wTup, wLst, wUn, wNew, gAdd, gInt, gInt0, gMul, gCatF, gRepF, wOpF, gEq, gCmp, gInS, gIsN, isN, gIsB, gIdx, woNone, woSome, gSl, wSl, gSlF, wSlF, wB, wBF, gLen, gInt1, gInt2, gToInt, gListF, tyName, gIsT, wIsT, wCall, Rt.d, Cn.d, onNew, wCallF, wCallN, wCallNF, nlR, wgName, wgNil, wgCons, wgTup, wSeq, wSeqT, wSigns, wRng1, wRng2, wRng3, wRev, wEnum, wZip, wLc, wtYes, wsNil, wsBrk, wsCnt, wsExpr, wsRet, wsRetF, wsRetOwn, wsRetN, wIfS, wsSet, wsSetF, wsAsg, wsPar, wsAug, gApp, gExt, gPop0, gRev, wMut, wsSetIx, wFor, wsRaise, wSeqS, wFrz, wsCallM, wsPopAdd, endsOf, endM, endsM, startM, startE, wipeE, smallI, CPow, Br_true, Br_false, Br_not, rngD_eq, dC, dP, dI, ex_atI_map, atI0, atI1, atI2, kit1, kit2, kit3, kit4, kit5, kit6, kit7, kit8, kit9, kit10, kit11, kit12, kit13, kit14, kit15, kit16, kit17, kit18, kit19, kit20, kit21, kit22, kit23, kit24, kit25, kit26, kit27, kit28, kit29, kit30, kit31, kit32, kit33, kit34, kit35, sizeLine_eq, true_and, and_true, exists_eq_left', Option.some.injEq, List.map_cons, List.map_nil, List.length_cons, List.length_nil, List.length_map, List.length_append, List.cons_append, List.nil_append, List.set_cons_zero, List.set_cons_succ, List.getElem?_cons_zero, List.getElem?_cons_succ, List.getElem?_nil, Nat.reduceSub, Nat.reduceAdd, Nat.zero_add, Nat.sub_self, List.replicate_succ, List.replicate_zero, Bool.false_bne, Bool.true_bne, Bool.false_xor, Bool.true_xor, Bool.not_true, Bool.not_false, Bool.not_not, beq_self_eq_true, Bool.and_true, Bool.true_and, nl, nls, decide_true, decide_false, exists_eq_left, Bool.false_eq_true, Option.some_inj, Int.reduceToNat, Int.reducePow, Int.reduceMul, Int.reduceSub, Int.reduceAdd, Int.reduceNeg, Nat.reducePow, Nat.reduceLeDiff, Int.reduceLE, Int.reduceLT, Int.reduceAbs, Int.natAbs_neg, Nat.reduceLT, divW_eq, mulW_eq, Bool.or_true, Bool.true_or, cut_map, ← List.map_append, ← List.map_reverse, castN, eq_self, Int.reduceEq, deqC, deq_self, rep_map, nls_dP, wsAugIx, tx_cps, tx_len, tx_app, tx_one, tx_nil, tx_cut, tx_signs, tx_rep, lit_empty, tx_inj, wJoin, gJoin, wmCall, wmOpL, wmOpR, wmIxR, wmTup2, wsSetM, wsAppM, wForM, gSum, gAny, gAll, gLtD, gInT, gSorted, gAddT, wThaw, gMaxL, wsRetT, wsRetTF, wmApp, mutW, wNIf, wNIfM, wsNo, nestQ, wNest, isL, wsSetV]
  have ln := nf_len c
  refine ⟨c, rfl, by omega, ?_⟩
  walk_at "s"
  have fin : ∀ (o mid post : List Pc), Red (o ++ mid) → nf (o ++ mid ++ con o) = nf c → o.length + mid.length ≤ (nf c).length → (∀ p ∈ o ++ mid, ∃ z ∈ c, p.1 = z.1) → (2 ≤ mid.length → ∀ p q, mid.head? = some p → mid.getLast? = some q → p.1 ≠ q.1) → ∀ lo hi : Int, lo = o.length → hi = (o.length : Int) + mid.length →
      R (.val (.tup [.lst (o.map dP), .lst ((cut (o ++ mid ++ post) (some lo) (some hi)).map dP)])) := fun o mid post h2 h3 h4 h5 h6 lo hi e1 e2 => by
    subst e1 e2
    have : cut (o ++ mid ++ post) (some (o.length : Int)) (some ((o.length : Int) + mid.length)) = mid := by
      rw [cut_fromTo (by omega) (by omega), show ((o.length : Int) + mid.length).toNat = o.length + mid.length by omega, Int.toNat_natCast]
      rw [← List.length_append, List.take_left, List.drop_left]
    rw [this]
    exact q o mid (red_take h2) (red_drop h2) h3 (by omega) h6 h5
  refine while_ind (S := List Pc × List Pc × List Pc × Int × Int × Sl × Sl) (fun s => [.fz (.lst (c.map dP)), .own false (.lst (s.2.2.1.map dP)), .own false (.lst (s.1.map dP)), .fz (.int s.2.2.2.1), .fz (.int s.2.2.2.2.1), s.2.2.2.2.2.1, s.2.2.2.2.2.2])
    (fun m s => m = s.2.1.length ∧ Red (s.1 ++ s.2.1) ∧ nf (s.1 ++ s.2.1 ++ con s.1) = nf c ∧ s.1.length + s.2.1.length ≤ (nf c).length ∧ (∀ p ∈ s.1 ++ s.2.1, ∃ z ∈ c, p.1 = z.1) ∧ (∃ post, s.2.2.1 = s.1 ++ s.2.1 ++ post) ∧ s.2.2.1.length ≤ (nf c).length ∧ s.2.2.2.1 = s.1.length ∧ s.2.2.2.2.1 = (s.1.length : Int) + s.2.1.length - 1) ?_ (nf c).length ([], nf c, nf c, 0, ((nf c).length : Int) - 1, .un, .un) ?_
  · rintro m ⟨o, mid, W, lo, hi, s5, s6⟩ L ⟨h1, h2, h3, h4, h5, ⟨post, h6⟩, h7, h8, h9⟩ ih
    simp only at h1 h2 h3 h4 h5 h6 h7 h8 h9
    walk_at "s"
    refine Br.d (fun hlt => ?_) (fun hge => ?_)
    · obtain ⟨f, mm, g, rfl⟩ : ∃ f mm g, mid = f :: (mm ++ [g]) := by
        cases mid with
        | nil => simp at h9; omega
        | cons f r =>
          rcases List.eq_nil_or_concat r with z | ⟨mm, g, z⟩
          · rw [z] at h9; simp at h9; omega
          · exact ⟨f, mm, g, by rw [z]; simp⟩
      have i1 : atI W lo = some f := by
        rw [h8]
        refine atI_nat ?_
        rw [h6]
        simp
      have i2 : atI W hi = some g := by
        have eh : hi = ((o.length + mm.length + 1 : Nat) : Int) := by rw [h9]; simp; omega
        rw [eh]
        refine atI_nat ?_
        rw [h6, show o ++ f :: (mm ++ [g]) ++ post = (o ++ f :: mm) ++ g :: post by simp]
        rw [List.getElem?_append_right (by simp; omega)]
        simp [show o.length + mm.length + 1 - (o.length + (mm.length + 1)) = 0 by omega]
      walk_at "s"
      refine ⟨f, i1, g, i2, Br.d (fun hn => ?_) (fun hn => ?_)⟩
      · walk_at "s"
        simp only [List.length_cons, List.length_append, List.length_nil] at h1 h4 h9
        have hcon : con (o ++ [f]) = (f.1, -f.2) :: con o := by rw [con_app]; rfl
        have hall : o ++ f :: (mm ++ [g]) = (o ++ f :: mm) ++ [g] := by simp
        have h5' : ∀ p ∈ o ++ f :: mm, ∃ z ∈ c, p.1 = z.1 := fun p hp => h5 p (by rw [hall]; exact List.mem_append_left _ hp)
        refine ⟨f, i1, by omega, g, i2, Br.d (fun hs => ?_) (fun hs => ?_)⟩
        · have := ih mm.length (o ++ [f], mm, W, lo + 1, hi - 1, .fz (dP f), .fz (.int (f.2 + g.2))) (by omega)
            ⟨rfl, by have := red_take (o := o ++ f :: mm) (mid := [g]) (by rw [← hall]; exact h2); simpa using this, ?_, by simp; omega, fun p hp => h5' p (by simpa using hp), ⟨g :: post, by rw [h6]; simp⟩, h7, by simp; omega, by simp; omega⟩
          · simpa [dP] using this
          · rw [← h3]
            simp only
            rw [hcon]
            have eg : (f.1, -f.2) = g := Prod.ext hn (by show -f.2 = g.2; omega)
            rw [eg]
            congr 1
            simp
        · walk_at "s"
          have hj : ixN W.length hi = some (o.length + mm.length + 1) := by
            rw [h9, show ((o.length : Int) + ((mm.length + (0 + 1) + 1 : Nat) : Int) - 1) = ((o.length + mm.length + 1 : Nat) : Int) by omega]
            refine ixN_at ?_
            rw [h6]
            simp
            omega
          have es : (W.map dP).set (o.length + mm.length + 1) (.tup [.str f.1, .int (f.2 + g.2)]) = ((o ++ [f]) ++ (mm ++ [(f.1, f.2 + g.2)]) ++ post).map dP := by
            have : W.set (o.length + mm.length + 1) (f.1, f.2 + g.2) = (o ++ [f]) ++ (mm ++ [(f.1, f.2 + g.2)]) ++ post := by
              rw [h6, show o ++ f :: (mm ++ [g]) ++ post = (o ++ f :: mm) ++ g :: post by simp]
              rw [List.set_append_right _ _ (by simp; omega)]
              simp [show o.length + mm.length + 1 - (o.length + (mm.length + 1)) = 0 by omega]
            rw [← this, List.map_set]
            rfl
          refine ⟨_, hj, ?_⟩
          rw [es, cut_map]
          have := fin (o ++ [f]) (mm ++ [(f.1, f.2 + g.2)]) post ?_ ?_ (by simp; omega) ?_ ?_ (lo + 1) (hi + 1) (by simp; omega) (by simp; omega)
          · simpa [dP] using this
          · have := red_last (a := o ++ f :: mm) (g := g) (g' := (f.1, f.2 + g.2)) (by rw [← hall]; exact h2) hn hs
            simpa using this
          · rw [← h3, hcon]
            have e := nf_mid (o ++ f :: mm) (con o) (eqv_part (n := f.1) (a := f.2 + g.2) (b := -f.2) (t := g.2) (by omega))
            have eg : (f.1, g.2) = g := Prod.ext hn rfl
            rw [eg] at e
            simp only [List.append_assoc, List.cons_append, List.nil_append] at e ⊢
            exact e.symm
          · intro p hp
            rw [show (o ++ [f]) ++ (mm ++ [(f.1, f.2 + g.2)]) = (o ++ f :: mm) ++ [(f.1, f.2 + g.2)] by simp] at hp
            rcases List.mem_append.mp hp with hp | hp
            · exact h5' p hp
            · rw [List.mem_singleton] at hp
              rw [hp]
              exact h5' f (by simp)
          · intro hm p z hp hz
            cases mm with
            | nil => simp at hm
            | cons h mr =>
              have e1 : h = p := by simpa using hp
              have e2 : z = (f.1, f.2 + g.2) := by
                rw [List.getLast?_append] at hz
                simpa using hz.symm
              rw [← e1, e2]
              have hr := red_drop (o := o) h2
              exact fun w => hr.2.1 w.symm
      · walk_at "s"
        simp only [List.length_cons, List.length_append, List.length_nil] at h9
        rw [h6]
        refine fin o (f :: (mm ++ [g])) post h2 h3 h4 h5 (fun _ p z hp hz => ?_) lo (hi + 1) h8 (by simp; omega)
        have e1 : f = p := by simpa using hp
        have e2 : g = z := by
          have hg : (f :: (mm ++ [g])).getLast? = some g := List.getLast?_eq_some_iff.mpr ⟨f :: mm, by simp⟩
          rw [hg] at hz
          exact Option.some.inj hz
        rw [← e1, ← e2]
        exact hn
    · walk_at "s"
      rw [h6]
      exact fin o mid post h2 h3 h4 h5 (fun h => by omega) lo (hi + 1) h8 (by omega)
  · refine ⟨rfl, nf_red c, ?_, by simp, fun p hp => nf_nails hp, ⟨[], by simp⟩, Nat.le_refl _, rfl, by simp⟩
    show nf (nf c ++ []) = nf c
    rw [List.append_nil, nf_nf]
def SP_repeated : Spec := fun ds _ R => ∃ r : List Pc, ds = [dC r] ∧ 2 ≤ r.length ∧ r.length ≤ 100000 ∧ OkC r ∧ ∀ t, IsRt r t → R (.val (.int (t : Nat)))
theorem len_repeated (ds : List D) (x : XS) (R : Rt → Prop) (h : SP_repeated ds x R) : ds.length = ["runs"].length := by
  obtain ⟨c, rfl, _⟩ := h; rfl
theorem small_rt {r : List Pc} {s : Nat} (h1 : 1 ≤ s) (hd : r.length % s = 0) (hp : pw (r.length / s) (r.take s) = r) (h0 : r ≠ []) (least : ∀ s', 1 ≤ s' → s' < s → ¬ (r.length % s' = 0 ∧ pw (r.length / s') (r.take s') = r)) : IsRt r (r.length / s) := by
  have hn : 0 < r.length := List.length_pos_iff.mpr h0
  have hsl : s ≤ r.length := Nat.le_of_dvd hn (Nat.dvd_of_mod_eq_zero hd)
  refine ⟨⟨_, hp.symm⟩, Nat.div_pos hsl (by omega), fun t' ht => ?_⟩
  rcases Nat.lt_or_ge (r.length / s) t' with hlt | hge
  · exfalso
    obtain ⟨e1, e2⟩ := rk_take ht (Nat.lt_of_le_of_lt (Nat.zero_le _) hlt)
    have hz : 1 ≤ r.length / t' := by
      rcases Nat.eq_zero_or_pos (r.length / t') with z | z
      · rw [z] at e1; omega
      · exact z
    have hs : r.length / t' < s := by
      rcases Nat.lt_or_ge (r.length / t') s with z | z
      · exact z
      · have := (Nat.div_lt_iff_lt_mul (by omega : 0 < s)).mp hlt
        have h3 : t' * s ≤ t' * (r.length / t') := Nat.mul_le_mul_left _ z
        rw [Nat.mul_comm t' (r.length / t'), e1] at h3
        omega
    have e3 : r.length / (r.length / t') = t' := by
      rw [Nat.div_eq_of_eq_mul_left (by omega)]
      rw [Nat.mul_comm]; exact e1.symm
    exact least _ hz hs ⟨Nat.mod_eq_zero_of_dvd ⟨t', e1.symm⟩, by rw [e3]; exact e2⟩
  · exact hge
def W_repeated : WS :=
  (wSeqS (wFor (wRng2 (wC (.int 1)) (wB gLen (wCons (wVar 0) wNil))) (wgName 1)
  (wIfS (wAnd (wtOn (wOp (gEq false) (wOp (gInt (fun _ j => 0 < j) fun i j => i % j) (wB gLen (wCons (wVar 0) wNil)) (wVar 1)) (wC (.int 0)))) (wtOn (wOp (gEq false) (wOp gMul (wSl (wVar 0) woNone (woSome (wVar 1))) (wOp (gInt CDivW fun i j => i / j) (wB gLen (wCons (wVar 0) wNil)) (wVar 1))) (wVar 0))))
  (wsRet (wOp (gInt CDivW fun i j => i / j) (wB gLen (wCons (wVar 0) wNil)) (wVar 1)))
  wsNil))
  (wsRet (wC (.int 1))))
theorem pure_repeated (ds : List D) (x : XS) (R : Rt → Prop) (h : SP_repeated ds x R) : W_repeated (endsOf R x) (startE 2 ds) := by
  obtain ⟨r, rfl, h2, hl, ok, q⟩ := h
  simp only [W_repeated, wVar, wOwn, wC, wOp, onBl, wtOn, wChain, trD, wtVal, wtNot, wAnd, wOr, wAndV, wOrV, wNotV, wIf, wNil, wCons, wTup, wLst, wUn, wNew, gAdd, gInt, gInt0, gMul, gCatF, gRepF, wOpF, gEq, gCmp, gInS, gIsN, isN, gIsB, gIdx, woNone, woSome, gSl, wSl, gSlF, wSlF, wB, wBF, gLen, gInt1, gInt2, gToInt, gListF, tyName, gIsT, wIsT, wCall, Rt.d, Cn.d, onNew, wCallF, wCallN, wCallNF, nlR, wgName, wgNil, wgCons, wgTup, wSeq, wSeqT, wSigns, wRng1, wRng2, wRng3, wRev, wEnum, wZip, wLc, wtYes, wsNil, wsBrk, wsCnt, wsExpr, wsRet, wsRetF, wsRetOwn, wsRetN, wIfS, wsSet, wsSetF, wsAsg, wsPar, wsAug, gApp, gExt, gPop0, gRev, wMut, wsSetIx, wFor, wsRaise, wSeqS, wFrz, wsCallM, wsPopAdd, endsOf, endM, endsM, startM, startE, wipeE, smallI, CPow, Br_true, Br_false, Br_not, rngD_eq, dC, dP, dI, ex_atI_map, atI0, atI1, atI2, kit1, kit2, kit3, kit4, kit5, kit6, kit7, kit8, kit9, kit10, kit11, kit12, kit13, kit14, kit15, kit16, kit17, kit18, kit19, kit20, kit21, kit22, kit23, kit24, kit25, kit26, kit27, kit28, kit29, kit30, kit31, kit32, kit33, kit34, kit35, sizeLine_eq, true_and, and_true, exists_eq_left', Option.some.injEq, List.map_cons, List.map_nil, List.length_cons, List.length_nil, List.length_map, List.length_append, List.cons_append, List.nil_append, List.set_cons_zero, List.set_cons_succ, List.getElem?_cons_zero, List.getElem?_cons_succ, List.getElem?_nil, Nat.reduceSub, Nat.reduceAdd, Nat.zero_add, Nat.sub_self, List.replicate_succ, List.replicate_zero, Bool.false_bne, Bool.true_bne, Bool.false_xor, Bool.true_xor, Bool.not_true, Bool.not_false, Bool.not_not, beq_self_eq_true, Bool.and_true, Bool.true_and, nl, nls, decide_true, decide_false, exists_eq_left, Bool.false_eq_true, Option.some_inj, Int.reduceToNat, Int.reducePow, Int.reduceMul, Int.reduceSub, Int.reduceAdd, Int.reduceNeg, Nat.reducePow, Nat.reduceLeDiff, Int.reduceLE, Int.reduceLT, Int.reduceAbs, Int.natAbs_neg, Nat.reduceLT, divW_eq, mulW_eq, Bool.or_true, Bool.true_or, cut_map, ← List.map_append, ← List.map_reverse, castN, eq_self, Int.reduceEq, deqC, deq_self, rep_map, nls_dP, wsAugIx, tx_cps, tx_len, tx_app, tx_one, tx_nil, tx_cut, tx_signs, tx_rep, lit_empty, tx_inj, wJoin, gJoin, wmCall, wmOpL, wmOpR, wmIxR, wmTup2, wsSetM, wsAppM, wForM, gSum, gAny, gAll, gLtD, gInT, gSorted, gAddT, wThaw, gMaxL, wsRetT, wsRetTF, wmApp, mutW, wNIf, wNIfM, wsNo, nestQ, wNest, isL, wsSetV]
  refine ⟨by omega, ?_⟩
  have r0 : r ≠ [] := fun z => by rw [z] at h2; simp at h2
  refine loop_ind (S := Sl) D.int (fun s => [.fz (.lst (r.map dP)), s]) (fun rest _ => ∃ s : Nat, rest = rng (s : Int) 1 (r.length - s) ∧ 1 ≤ s ∧ s ≤ r.length ∧ ∀ s', 1 ≤ s' → s' < s → ¬ (r.length % s' = 0 ∧ pw (r.length / s') (r.take s') = r)) ?_ ?_ _ .un ⟨1, by congr 1; omega, by omega, by omega, fun s' h1 h2 => by omega⟩
  · rintro sl ⟨s, e, h1, hs, least⟩
    have : s = r.length := by
      have := congrArg List.length e
      rw [rng_len] at this
      simp at this
      omega
    subst this
    walk_at "s"
    have h := small_rt (s := r.length) (by omega) (by simp) (by rw [Nat.div_self (by omega), List.take_length, pw_one]) r0 least
    rw [Nat.div_self (by omega)] at h
    exact q 1 h
  · rintro a rest sl L ⟨s, e, h1, hs, least⟩ ih
    have hlt : s < r.length := by
      rcases Nat.lt_or_ge s r.length with z | z
      · exact z
      · rw [Nat.sub_eq_zero_of_le z, rng0] at e; cases e
    rw [show r.length - s = (r.length - (s + 1)) + 1 by omega, rng_succ] at e
    obtain ⟨rfl, rfl⟩ := List.cons.inj e
    have go : ¬ (r.length % s = 0 ∧ pw (r.length / s) (r.take s) = r) → L [.fz (.lst (r.map dP)), .fz (.int (s : Int))] := fun z => ih _ ⟨s + 1, by simp, by omega, by omega, fun s' h1 h2 => by
      rcases Nat.lt_succ_iff_lt_or_eq.mp h2 with h | h
      · exact least s' h1 h
      · rw [h]; exact z⟩
    have cd : ((r.length : Int) % (s : Int) = 0) ↔ r.length % s = 0 := by omega
    walk_at "s"
    refine ⟨by omega, ?_⟩
    refine Br.d (fun hm => ?_) (fun hm => ?_)
    · have hm' := cd.mp hm
      walk_at "s"
      have ed : ((r.length : Int) / (s : Int)) = ((r.length / s : Nat) : Int) := (Int.natCast_ediv _ _).symm
      rw [ed, cut_to (by omega), Int.toNat_natCast, Int.toNat_natCast]
      have k0 : 0 ≤ ((r.length : Int) / (s : Int)) := Int.ediv_nonneg (by omega) (by omega)
      have hk : r.length / s ≤ r.length := Nat.div_le_self _ _
      have hmul : (r.take s).length * (r.length / s) ≤ r.length := by
        rw [List.length_take, Nat.min_eq_left (by omega), Nat.mul_comm]
        exact Nat.div_mul_le_self _ _
      have okt : OkC (List.replicate (r.length / s) (r.take s)).flatten := ok.sub fun p hp => List.mem_of_mem_take (pw_mem hp)
      have okd : CDivW (r.length : Int) (s : Int) := divWs (by omega) (by omega)
      refine ⟨okd, ⟨by omega, by omega, by omega⟩, ⟨nbC okt, nbC ok⟩, ?_⟩
      refine Br.d (fun hp => ?_) (fun hp => go fun z => hp z.2)
      rw [List.length_map, ed]
      exact ⟨okd, q _ (small_rt h1 hm' hp r0 least)⟩
    · exact go fun z => hm (cd.mpr z.1)
def SP_contrary : Spec := fun ds _ R => ∃ c : List Pc, ds = [dC c] ∧ c.length ≤ 16777216 ∧ R (.new (.lst ((con c).map dP)))
theorem len_contrary (ds : List D) (x : XS) (R : Rt → Prop) (h : SP_contrary ds x R) : ds.length = ["cord"].length := by
  obtain ⟨c, rfl, _⟩ := h; rfl
def W_contrary : WS :=
  (wsRetF (wLc (wRev (wVar 0)) (wgTup 2 (wgCons (wgName 1) (wgCons (wgName 2) wgNil))) wtYes (wTup (wCons (wVar 1) (wCons (wUn (fun i => -i) (wVar 2)) wNil))) [1, 2]))
theorem pure_contrary (ds : List D) (x : XS) (R : Rt → Prop) (h : SP_contrary ds x R) : W_contrary (endsOf R x) (startE 3 ds) := by
  obtain ⟨c, rfl, hl, q⟩ := h
  simp only [W_contrary, wVar, wOwn, wC, wOp, onBl, wtOn, wChain, trD, wtVal, wtNot, wAnd, wOr, wAndV, wOrV, wNotV, wIf, wNil, wCons, wTup, wLst, wUn, wNew, gAdd, gInt, gInt0, gMul, gCatF, gRepF, wOpF, gEq, gCmp, gInS, gIsN, isN, gIsB, gIdx, woNone, woSome, gSl, wSl, gSlF, wSlF, wB, wBF, gLen, gInt1, gInt2, gToInt, gListF, tyName, gIsT, wIsT, wCall, Rt.d, Cn.d, onNew, wCallF, wCallN, wCallNF, nlR, wgName, wgNil, wgCons, wgTup, wSeq, wSeqT, wSigns, wRng1, wRng2, wRng3, wRev, wEnum, wZip, wLc, wtYes, wsNil, wsBrk, wsCnt, wsExpr, wsRet, wsRetF, wsRetOwn, wsRetN, wIfS, wsSet, wsSetF, wsAsg, wsPar, wsAug, gApp, gExt, gPop0, gRev, wMut, wsSetIx, wFor, wsRaise, wSeqS, wFrz, wsCallM, wsPopAdd, endsOf, endM, endsM, startM, startE, wipeE, smallI, CPow, Br_true, Br_false, Br_not, rngD_eq, dC, dP, dI, ex_atI_map, atI0, atI1, atI2, kit1, kit2, kit3, kit4, kit5, kit6, kit7, kit8, kit9, kit10, kit11, kit12, kit13, kit14, kit15, kit16, kit17, kit18, kit19, kit20, kit21, kit22, kit23, kit24, kit25, kit26, kit27, kit28, kit29, kit30, kit31, kit32, kit33, kit34, kit35, sizeLine_eq, true_and, and_true, exists_eq_left', Option.some.injEq, List.map_cons, List.map_nil, List.length_cons, List.length_nil, List.length_map, List.length_append, List.cons_append, List.nil_append, List.set_cons_zero, List.set_cons_succ, List.getElem?_cons_zero, List.getElem?_cons_succ, List.getElem?_nil, Nat.reduceSub, Nat.reduceAdd, Nat.zero_add, Nat.sub_self, List.replicate_succ, List.replicate_zero, Bool.false_bne, Bool.true_bne, Bool.false_xor, Bool.true_xor, Bool.not_true, Bool.not_false, Bool.not_not, beq_self_eq_true, Bool.and_true, Bool.true_and, nl, nls, decide_true, decide_false, exists_eq_left, Bool.false_eq_true, Option.some_inj, Int.reduceToNat, Int.reducePow, Int.reduceMul, Int.reduceSub, Int.reduceAdd, Int.reduceNeg, Nat.reducePow, Nat.reduceLeDiff, Int.reduceLE, Int.reduceLT, Int.reduceAbs, Int.natAbs_neg, Nat.reduceLT, divW_eq, mulW_eq, Bool.or_true, Bool.true_or, cut_map, ← List.map_append, ← List.map_reverse, castN, eq_self, Int.reduceEq, deqC, deq_self, rep_map, nls_dP, wsAugIx, tx_cps, tx_len, tx_app, tx_one, tx_nil, tx_cut, tx_signs, tx_rep, lit_empty, tx_inj, wJoin, gJoin, wmCall, wmOpL, wmOpR, wmIxR, wmTup2, wsSetM, wsAppM, wForM, gSum, gAny, gAll, gLtD, gInT, gSorted, gAddT, wThaw, gMaxL, wsRetT, wsRetTF, wmApp, mutW, wNIf, wNIfM, wsNo, nestQ, wNest, isL, wsSetV]
  refine compL_map dP (fun p => dP (p.1, -p.2)) (fun p Q' hq => ?_) _ _ ?_ ?_
  · walk_at "s"
    simpa [dP] using hq
  · walk_at "s"; simpa using hl
  · simpa [con, Function.comp_def] using q
def SP_root_of : Spec := fun ds _ R => ∃ c : List Pc, ds = [dC c] ∧ c.length ≤ 10000 ∧ OkC c ∧ (∀ n, (exN n c).natAbs < 2 ^ 200) ∧ (nf c = [] → R (.val .non)) ∧ ∀ g t, nf c ≠ [] → RootOf c g t → RootX c g t → g.length ≤ 3 * c.length → (∀ p ∈ g, ∃ z ∈ c, p.1 = z.1) → R (.val (.tup [dC g, .int (t : Nat)]))
theorem len_root_of (ds : List D) (x : XS) (R : Rt → Prop) (h : SP_root_of ds x R) : ds.length = ["cord"].length := by
  obtain ⟨c, rfl, _⟩ := h; rfl
theorem log_lt {j : Int} (h : j.natAbs < 2 ^ 200) : j.natAbs.log2 < 9000 := by
  have := log2_lt (i := j) (n := 199) h
  omega
def W_root_of_3 : WS :=
  (wsRet (wTup (wCons (wCall SP_short_form (wCons (wOp gAdd (wOp gAdd (wVar 1) (wVar 2)) (wCall SP_contrary (wCons (wVar 1) wNil))) wNil)) (wCons (wVar 3) wNil))))
def W_root_of : WS :=
  (wSeqS (wsAsg (wCall SP_loosened (wCons (wVar 0) wNil)) (wgTup 2 (wgCons (wgName 1) (wgCons (wgName 2) wgNil))))
  (wSeqS (wIfS (wtOn (wOp (gEq false) (wB gLen (wCons (wVar 2) wNil)) (wC (.int 0))))
  (wsRet (wC .non))
  wsNil)
  (wSeqS (wIfS (wtOn (wOp (gEq false) (wB gLen (wCons (wVar 2) wNil)) (wC (.int 1))))
  (wSeqS (wsAsg (wOp gIdx (wVar 2) (wC (.int 0))) (wgTup 2 (wgCons (wgName 4) (wgCons (wgName 5) wgNil))))
  (wSeqS (wsSet 3 (wB (gInt1 fun i => if i < 0 then -i else i) (wCons (wVar 5) wNil)))
  (wsSet 2 (wNew (wLst (wCons (wTup (wCons (wVar 4) (wCons (wOp (gInt CDivW fun i j => i / j) (wVar 5) (wVar 3)) wNil))) wNil))))))
  (wSeqS (wsSet 3 (wCall SP_repeated (wCons (wVar 2) wNil)))
  (wsSet 2 (wSl (wVar 2) woNone (woSome (wOp (gInt CDivW fun i j => i / j) (wB gLen (wCons (wVar 2) wNil)) (wVar 3)))))))
  W_root_of_3)))
theorem root_end {R : Rt → Prop} {x : XS} {s0 s4 s5 : Sl} {o b : List Pc} {t : Nat} (hl : o.length + b.length ≤ 100000) (q : R (.val (.tup [dC (nf (o ++ b ++ con o)), .int (t : Nat)]))) : W_root_of_3 (endsOf R x) [s0, .fz (dC o), .fz (dC b), .fz (.int (t : Nat)), s4, s5] := by
  have cl : (con o).length = o.length := con_len o
  simp only [W_root_of_3, wVar, wOwn, wC, wOp, onBl, wtOn, wChain, trD, wtVal, wtNot, wAnd, wOr, wAndV, wOrV, wNotV, wIf, wNil, wCons, wTup, wLst, wUn, wNew, gAdd, gInt, gInt0, gMul, gCatF, gRepF, wOpF, gEq, gCmp, gInS, gIsN, isN, gIsB, gIdx, woNone, woSome, gSl, wSl, gSlF, wSlF, wB, wBF, gLen, gInt1, gInt2, gToInt, gListF, tyName, gIsT, wIsT, wCall, Rt.d, Cn.d, onNew, wCallF, wCallN, wCallNF, nlR, wgName, wgNil, wgCons, wgTup, wSeq, wSeqT, wSigns, wRng1, wRng2, wRng3, wRev, wEnum, wZip, wLc, wtYes, wsNil, wsBrk, wsCnt, wsExpr, wsRet, wsRetF, wsRetOwn, wsRetN, wIfS, wsSet, wsSetF, wsAsg, wsPar, wsAug, gApp, gExt, gPop0, gRev, wMut, wsSetIx, wFor, wsRaise, wSeqS, wFrz, wsCallM, wsPopAdd, endsOf, endM, endsM, startM, startE, wipeE, smallI, CPow, Br_true, Br_false, Br_not, rngD_eq, dC, dP, dI, ex_atI_map, atI0, atI1, atI2, kit1, kit2, kit3, kit4, kit5, kit6, kit7, kit8, kit9, kit10, kit11, kit12, kit13, kit14, kit15, kit16, kit17, kit18, kit19, kit20, kit21, kit22, kit23, kit24, kit25, kit26, kit27, kit28, kit29, kit30, kit31, kit32, kit33, kit34, kit35, sizeLine_eq, true_and, and_true, exists_eq_left', Option.some.injEq, List.map_cons, List.map_nil, List.length_cons, List.length_nil, List.length_map, List.length_append, List.cons_append, List.nil_append, List.set_cons_zero, List.set_cons_succ, List.getElem?_cons_zero, List.getElem?_cons_succ, List.getElem?_nil, Nat.reduceSub, Nat.reduceAdd, Nat.zero_add, Nat.sub_self, List.replicate_succ, List.replicate_zero, Bool.false_bne, Bool.true_bne, Bool.false_xor, Bool.true_xor, Bool.not_true, Bool.not_false, Bool.not_not, beq_self_eq_true, Bool.and_true, Bool.true_and, nl, nls, decide_true, decide_false, exists_eq_left, Bool.false_eq_true, Option.some_inj, Int.reduceToNat, Int.reducePow, Int.reduceMul, Int.reduceSub, Int.reduceAdd, Int.reduceNeg, Nat.reducePow, Nat.reduceLeDiff, Int.reduceLE, Int.reduceLT, Int.reduceAbs, Int.natAbs_neg, Nat.reduceLT, divW_eq, mulW_eq, Bool.or_true, Bool.true_or, cut_map, ← List.map_append, ← List.map_reverse, castN, eq_self, Int.reduceEq, deqC, deq_self, rep_map, nls_dP, wsAugIx, tx_cps, tx_len, tx_app, tx_one, tx_nil, tx_cut, tx_signs, tx_rep, lit_empty, tx_inj, wJoin, gJoin, wmCall, wmOpL, wmOpR, wmIxR, wmTup2, wsSetM, wsAppM, wForM, gSum, gAny, gAll, gLtD, gInT, gSorted, gAddT, wThaw, gMaxL, wsRetT, wsRetTF, wmApp, mutW, wNIf, wNIfM, wsNo, nestQ, wNest, isL, wsSetV]
  refine ⟨by omega, o, rfl, by omega, ?_⟩
  walk_at "s"
  refine ⟨by omega, _, rfl, by simp only [List.length_append]; omega, ?_⟩
  walk_at "s"
  exact q
theorem pure_root_of (ds : List D) (x : XS) (R : Rt → Prop) (h : SP_root_of ds x R) : W_root_of (endsOf R x) (startE 6 ds) := by
  obtain ⟨c, rfl, hl, ok, hb, q0, q⟩ := h
  simp only [W_root_of, wVar, wOwn, wC, wOp, onBl, wtOn, wChain, trD, wtVal, wtNot, wAnd, wOr, wAndV, wOrV, wNotV, wIf, wNil, wCons, wTup, wLst, wUn, wNew, gAdd, gInt, gInt0, gMul, gCatF, gRepF, wOpF, gEq, gCmp, gInS, gIsN, isN, gIsB, gIdx, woNone, woSome, gSl, wSl, gSlF, wSlF, wB, wBF, gLen, gInt1, gInt2, gToInt, gListF, tyName, gIsT, wIsT, wCall, Rt.d, Cn.d, onNew, wCallF, wCallN, wCallNF, nlR, wgName, wgNil, wgCons, wgTup, wSeq, wSeqT, wSigns, wRng1, wRng2, wRng3, wRev, wEnum, wZip, wLc, wtYes, wsNil, wsBrk, wsCnt, wsExpr, wsRet, wsRetF, wsRetOwn, wsRetN, wIfS, wsSet, wsSetF, wsAsg, wsPar, wsAug, gApp, gExt, gPop0, gRev, wMut, wsSetIx, wFor, wsRaise, wSeqS, wFrz, wsCallM, wsPopAdd, endsOf, endM, endsM, startM, startE, wipeE, smallI, CPow, Br_true, Br_false, Br_not, rngD_eq, dC, dP, dI, ex_atI_map, atI0, atI1, atI2, kit1, kit2, kit3, kit4, kit5, kit6, kit7, kit8, kit9, kit10, kit11, kit12, kit13, kit14, kit15, kit16, kit17, kit18, kit19, kit20, kit21, kit22, kit23, kit24, kit25, kit26, kit27, kit28, kit29, kit30, kit31, kit32, kit33, kit34, kit35, sizeLine_eq, true_and, and_true, exists_eq_left', Option.some.injEq, List.map_cons, List.map_nil, List.length_cons, List.length_nil, List.length_map, List.length_append, List.cons_append, List.nil_append, List.set_cons_zero, List.set_cons_succ, List.getElem?_cons_zero, List.getElem?_cons_succ, List.getElem?_nil, Nat.reduceSub, Nat.reduceAdd, Nat.zero_add, Nat.sub_self, List.replicate_succ, List.replicate_zero, Bool.false_bne, Bool.true_bne, Bool.false_xor, Bool.true_xor, Bool.not_true, Bool.not_false, Bool.not_not, beq_self_eq_true, Bool.and_true, Bool.true_and, nl, nls, decide_true, decide_false, exists_eq_left, Bool.false_eq_true, Option.some_inj, Int.reduceToNat, Int.reducePow, Int.reduceMul, Int.reduceSub, Int.reduceAdd, Int.reduceNeg, Nat.reducePow, Nat.reduceLeDiff, Int.reduceLE, Int.reduceLT, Int.reduceAbs, Int.natAbs_neg, Nat.reduceLT, divW_eq, mulW_eq, Bool.or_true, Bool.true_or, cut_map, ← List.map_append, ← List.map_reverse, castN, eq_self, Int.reduceEq, deqC, deq_self, rep_map, nls_dP, wsAugIx, tx_cps, tx_len, tx_app, tx_one, tx_nil, tx_cut, tx_signs, tx_rep, lit_empty, tx_inj, wJoin, gJoin, wmCall, wmOpL, wmOpR, wmIxR, wmTup2, wsSetM, wsAppM, wForM, gSum, gAny, gAll, gLtD, gInT, gSorted, gAddT, wThaw, gMaxL, wsRetT, wsRetTF, wmApp, mutW, wNIf, wNIfM, wsNo, nestQ, wNest, isL, wsSetV]
  refine ⟨c, rfl, by omega, fun o i ro ri e hl2 he hm => ?_⟩
  walk_at "s"
  have cyc : Cyc i := ⟨ri, he⟩
  have nn : ∀ b : List Pc, (∀ p ∈ b, ∃ z ∈ i, p.1 = z.1) → (nf (o ++ b ++ con o)).length ≤ o.length + b.length + o.length ∧ ∀ p ∈ nf (o ++ b ++ con o), ∃ z ∈ c, p.1 = z.1 := fun b hb => by
    refine ⟨by have := nf_len (o ++ b ++ con o); simp only [List.length_append, con_len] at this; omega, fun p hp => ?_⟩
    obtain ⟨z, hz, e⟩ := nf_nails hp
    rw [e]
    rcases List.mem_append.mp hz with hz | hz
    · rcases List.mem_append.mp hz with hz | hz
      · exact hm z (List.mem_append_left _ hz)
      · obtain ⟨y, hy, e2⟩ := hb z hz
        rw [e2]
        exact hm y (List.mem_append_right _ hy)
    · unfold con at hz
      obtain ⟨y, hy, rfl⟩ := List.mem_map.mp hz
      exact hm y (List.mem_append_left _ (List.mem_reverse.mp hy))
  match i, cyc, e, hl2, hm, nn with
  | [], cyc, e, hl2, hm, nn =>
    walk_at "s"
    exact q0 (by rw [← e, List.append_nil, nf_con])
  | [(n, v)], cyc, e, hl2, hm, nn =>
    have v0 : v ≠ 0 := cyc.1
    have vb : v.natAbs < 2 ^ 200 := by
      have h1 := led_ex n e
      have h2 : exN n [(n, v)] = v := by simp [exN]
      have h3 := hb n
      rw [← h1, h2] at h3
      exact h3
    have va : (if v < 0 then -v else v) = (v.natAbs : Int) := by split <;> omega
    walk_at "s"
    rw [va]
    have dv : CDivW v (v.natAbs : Int) := ⟨by omega, by rw [Int.natAbs_natCast]; exact log_lt vb⟩
    refine ⟨dv, ?_⟩
    obtain ⟨s, hs, es⟩ : ∃ s : Int, s * (v.natAbs : Int) = v ∧ v / (v.natAbs : Int) = s := by
      rcases Int.lt_or_gt_of_ne v0 with h | h
      · exact ⟨-1, by omega, Int.ediv_eq_of_eq_mul_left (by omega) (by omega)⟩
      · exact ⟨1, by omega, Int.ediv_eq_of_eq_mul_left (by omega) (by omega)⟩
    rw [es]
    have hn := nn [(n, s)] fun p hp => by rw [List.mem_singleton] at hp; exact ⟨_, List.mem_singleton.mpr rfl, by rw [hp]⟩
    simp only [List.length_singleton] at hl2
    refine root_end (b := [(n, s)]) (by simp; omega) (q _ _ (led_ne cyc.1 (by simp) e) (root_one v0 e hs) ⟨o, _, _, cyc, e, .inl ⟨n, v, s, v0, rfl, rfl, rfl, hs⟩, rfl⟩ (by have := hn.1; simp only [List.length_singleton] at this; omega) hn.2)
  | a :: b :: r, cyc, e, hl2, hm, nn =>
    obtain ⟨i, hi⟩ : ∃ i, a :: b :: r = i := ⟨_, rfl⟩
    have i2 : 2 ≤ i.length := by rw [← hi]; simp
    rw [hi] at cyc e hl2 hm nn ⊢
    have oki : OkC i := fun p hp => by
      obtain ⟨z, hz, e⟩ := hm p (List.mem_append_right _ hp)
      show PyData.strOk p.1 = true
      rw [e]
      exact ok z hz
    refine Br.f (by omega) ?_
    walk_at "s"
    refine Br.f (by omega) ?_
    walk_at "s"
    refine ⟨i, rfl, i2, by omega, oki, fun t ht => ?_⟩
    walk_at "s"
    have dt : (i.length : Int) / (t : Int) = ((i.length / t : Nat) : Int) := (Int.natCast_ediv _ _).symm
    have t1 := ht.2.1
    obtain ⟨e1, e2⟩ := rk_take ht.1 t1
    have tl : t ≤ i.length := by
      rcases Nat.eq_zero_or_pos (i.length / t) with z | z
      · rw [z] at e1; omega
      · have := Nat.mul_le_mul_right t z; omega
    rw [dt, cut_to (Int.natCast_nonneg _), Int.toNat_natCast]
    refine ⟨divWs (by omega) (by omega), ?_⟩
    obtain ⟨b, hb'⟩ : ∃ b, i.take (i.length / t) = b := ⟨_, rfl⟩
    rw [hb'] at e2 ⊢
    have bl : b.length ≤ i.length := by rw [← hb', List.length_take]; omega
    have hn := nn b fun p hp => ⟨p, by rw [← hb'] at hp; exact List.mem_of_mem_take hp, rfl⟩
    have i0 : i ≠ [] := fun z => by rw [z] at i2; simp at i2
    exact root_end (by omega) (q _ _ (led_ne cyc.1 i0 e) (root_many cyc i2 e (by omega) ht e2.symm) ⟨o, i, b, cyc, e, .inr ⟨i2, ht, e2.symm⟩, rfl⟩ (by have := hn.1; omega) hn.2)
def Lim (c : List Pc) : Prop := c.length ≤ 2000 ∧ OkC c ∧ ∀ n, (exN n c).natAbs < 2 ^ 200
theorem root_ok {c g : List Pc} (ok : OkC c) (h : ∀ p ∈ g, ∃ z ∈ c, p.1 = z.1) : OkC g := fun p hp => by
  obtain ⟨z, hz, e⟩ := h p hp
  show PyData.strOk p.1 = true
  rw [e]
  exact ok z hz
structure RtA (c g : List Pc) (t : Nat) : Prop where
  r : RootOf c g t
  x : RootX c g t
  l : g.length ≤ 6000
  o : OkC g
def SP_common_root : Spec := fun ds _ R => ∃ c d : List Pc, ds = [dC c, dC d] ∧ Lim c ∧ Lim d ∧ (nf c = [] → nf d = [] → R (.val (.tup [.lst [], .int 0, .int 0]))) ∧ (∀ k t, nf c = [] → nf d ≠ [] → RtA d k t → R (.val (.tup [dC k, .int 0, .int (t : Nat)]))) ∧
  (∀ g s, nf c ≠ [] → nf d = [] → RtA c g s → R (.val (.tup [dC g, .int (s : Nat), .int 0]))) ∧ (∀ g s k t, nf c ≠ [] → nf d ≠ [] → RtA c g s → RtA d k t → (k = g → R (.val (.tup [dC g, .int (s : Nat), .int (t : Nat)]))) ∧ (k = con g → R (.val (.tup [dC g, .int (s : Nat), .int (-(t : Nat))]))) ∧ (k ≠ g → k ≠ con g → R (.val .non)))
theorem len_common_root (ds : List D) (x : XS) (R : Rt → Prop) (h : SP_common_root ds x R) : ds.length = ["one", "other"].length := by
  obtain ⟨t, d, rfl, _⟩ := h; rfl
def W_common_root : WS :=
  (wSeqS (wsSet 2 (wCall SP_root_of (wCons (wVar 0) wNil)))
  (wSeqS (wsSet 3 (wCall SP_root_of (wCons (wVar 1) wNil)))
  (wSeqS (wIfS (wAnd (wtOn (wOp (gIsN false) (wVar 2) (wC .non))) (wtOn (wOp (gIsN false) (wVar 3) (wC .non))))
  (wsRet (wTup (wCons (wNew (wLst wNil)) (wCons (wC (.int 0)) (wCons (wC (.int 0)) wNil)))))
  wsNil)
  (wSeqS (wIfS (wtOn (wOp (gIsN false) (wVar 2) (wC .non)))
  (wsRet (wTup (wCons (wOp gIdx (wVar 3) (wC (.int 0))) (wCons (wC (.int 0)) (wCons (wOp gIdx (wVar 3) (wC (.int 1))) wNil)))))
  wsNil)
  (wSeqS (wIfS (wtOn (wOp (gIsN false) (wVar 3) (wC .non)))
  (wsRet (wTup (wCons (wOp gIdx (wVar 2) (wC (.int 0))) (wCons (wOp gIdx (wVar 2) (wC (.int 1))) (wCons (wC (.int 0)) wNil)))))
  wsNil)
  (wSeqS (wIfS (wtOn (wOp (gEq false) (wOp gIdx (wVar 3) (wC (.int 0))) (wOp gIdx (wVar 2) (wC (.int 0)))))
  (wsRet (wTup (wCons (wOp gIdx (wVar 2) (wC (.int 0))) (wCons (wOp gIdx (wVar 2) (wC (.int 1))) (wCons (wOp gIdx (wVar 3) (wC (.int 1))) wNil)))))
  wsNil)
  (wSeqS (wIfS (wtOn (wOp (gEq false) (wOp gIdx (wVar 3) (wC (.int 0))) (wCall SP_contrary (wCons (wOp gIdx (wVar 2) (wC (.int 0))) wNil))))
  (wsRet (wTup (wCons (wOp gIdx (wVar 2) (wC (.int 0))) (wCons (wOp gIdx (wVar 2) (wC (.int 1))) (wCons (wUn (fun i => -i) (wOp gIdx (wVar 3) (wC (.int 1)))) wNil)))))
  wsNil)
  (wsRet (wC .non)))))))))
theorem pure_common_root (ds : List D) (x : XS) (R : Rt → Prop) (h : SP_common_root ds x R) : W_common_root (endsOf R x) (startE 4 ds) := by
  obtain ⟨c, d, rfl, ⟨hc, okc, exc⟩, ⟨hd, okd, exd⟩, q1, q2, q3, q4⟩ := h
  simp only [W_common_root, wVar, wOwn, wC, wOp, onBl, wtOn, wChain, trD, wtVal, wtNot, wAnd, wOr, wAndV, wOrV, wNotV, wIf, wNil, wCons, wTup, wLst, wUn, wNew, gAdd, gInt, gInt0, gMul, gCatF, gRepF, wOpF, gEq, gCmp, gInS, gIsN, isN, gIsB, gIdx, woNone, woSome, gSl, wSl, gSlF, wSlF, wB, wBF, gLen, gInt1, gInt2, gToInt, gListF, tyName, gIsT, wIsT, wCall, Rt.d, Cn.d, onNew, wCallF, wCallN, wCallNF, nlR, wgName, wgNil, wgCons, wgTup, wSeq, wSeqT, wSigns, wRng1, wRng2, wRng3, wRev, wEnum, wZip, wLc, wtYes, wsNil, wsBrk, wsCnt, wsExpr, wsRet, wsRetF, wsRetOwn, wsRetN, wIfS, wsSet, wsSetF, wsAsg, wsPar, wsAug, gApp, gExt, gPop0, gRev, wMut, wsSetIx, wFor, wsRaise, wSeqS, wFrz, wsCallM, wsPopAdd, endsOf, endM, endsM, startM, startE, wipeE, smallI, CPow, Br_true, Br_false, Br_not, rngD_eq, dC, dP, dI, ex_atI_map, atI0, atI1, atI2, kit1, kit2, kit3, kit4, kit5, kit6, kit7, kit8, kit9, kit10, kit11, kit12, kit13, kit14, kit15, kit16, kit17, kit18, kit19, kit20, kit21, kit22, kit23, kit24, kit25, kit26, kit27, kit28, kit29, kit30, kit31, kit32, kit33, kit34, kit35, sizeLine_eq, true_and, and_true, exists_eq_left', Option.some.injEq, List.map_cons, List.map_nil, List.length_cons, List.length_nil, List.length_map, List.length_append, List.cons_append, List.nil_append, List.set_cons_zero, List.set_cons_succ, List.getElem?_cons_zero, List.getElem?_cons_succ, List.getElem?_nil, Nat.reduceSub, Nat.reduceAdd, Nat.zero_add, Nat.sub_self, List.replicate_succ, List.replicate_zero, Bool.false_bne, Bool.true_bne, Bool.false_xor, Bool.true_xor, Bool.not_true, Bool.not_false, Bool.not_not, beq_self_eq_true, Bool.and_true, Bool.true_and, nl, nls, decide_true, decide_false, exists_eq_left, Bool.false_eq_true, Option.some_inj, Int.reduceToNat, Int.reducePow, Int.reduceMul, Int.reduceSub, Int.reduceAdd, Int.reduceNeg, Nat.reducePow, Nat.reduceLeDiff, Int.reduceLE, Int.reduceLT, Int.reduceAbs, Int.natAbs_neg, Nat.reduceLT, divW_eq, mulW_eq, Bool.or_true, Bool.true_or, cut_map, ← List.map_append, ← List.map_reverse, castN, eq_self, Int.reduceEq, deqC, deq_self, rep_map, nls_dP, wsAugIx, tx_cps, tx_len, tx_app, tx_one, tx_nil, tx_cut, tx_signs, tx_rep, lit_empty, tx_inj, wJoin, gJoin, wmCall, wmOpL, wmOpR, wmIxR, wmTup2, wsSetM, wsAppM, wForM, gSum, gAny, gAll, gLtD, gInT, gSorted, gAddT, wThaw, gMaxL, wsRetT, wsRetTF, wmApp, mutW, wNIf, wNIfM, wsNo, nestQ, wNest, isL, wsSetV]
  refine ⟨c, rfl, by omega, okc, exc, fun c0 => ?_, fun g s c0 r1 x1 l1 m1 => ?_⟩
  · walk_at "s"
    refine ⟨d, rfl, by omega, okd, exd, fun d0 => ?_, fun k t d0 r2 x2 l2 m2 => ?_⟩
    · walk_at "s"
      exact q1 c0 d0
    · walk_at "s"
      exact q2 k t c0 d0 ⟨r2, x2, by omega, root_ok okd m2⟩
  · walk_at "s"
    have okg := root_ok okc m1
    refine ⟨d, rfl, by omega, okd, exd, fun d0 => ?_, fun k t d0 r2 x2 l2 m2 => ?_⟩
    · walk_at "s"
      exact q3 g s c0 d0 ⟨r1, x1, by omega, okg⟩
    · walk_at "s"
      have okk := root_ok okd m2
      obtain ⟨w1, w2, w3⟩ := q4 g s k t c0 d0 ⟨r1, x1, by omega, okg⟩ ⟨r2, x2, by omega, okk⟩
      refine ⟨⟨nbC okk, nbC okg⟩, ?_⟩
      refine Br.d (fun e => ?_) (fun e => ?_)
      · walk_at "s"
        exact w1 e
      · walk_at "s"
        refine ⟨g, rfl, by omega, ?_⟩
        walk_at "s"
        refine ⟨⟨nbC okk, nbC (con_ok okg)⟩, ?_⟩
        refine Br.d (fun e2 => ?_) (fun e2 => ?_)
        · walk_at "s"
          exact w2 e2
        · walk_at "s"
          exact w3 e e2
def SP_law_is_short : Spec := fun ds _ R => ∃ c : List Pc, ds = [dC c] ∧ c.length < 16777216 ∧ OkC c ∧ R (.val (.bl (decide (nf c = c))))
theorem len_law_is_short (ds : List D) (x : XS) (R : Rt → Prop) (h : SP_law_is_short ds x R) : ds.length = ["_law_found"].length := by
  obtain ⟨c, rfl, _⟩ := h; rfl
def W_law_is_short : WS :=
  (wSeqS (wIfS (wtNot (wtVal (wIsT "list" (wVar 0))))
  (wsRet (wC (.bl false)))
  wsNil)
  (wSeqS (wFor (wSeq (wVar 0)) (wgName 1)
  (wSeqS (wIfS (wOr (wtNot (wtVal (wIsT "tuple" (wVar 1)))) (wOr (wtOn (wOp (gEq true) (wB gLen (wCons (wVar 1) wNil)) (wC (.int 2)))) (wtNot (wtVal (wIsT "str" (wOp gIdx (wVar 1) (wC (.int 0))))))))
  (wsRet (wC (.bl false)))
  wsNil)
  (wIfS (wOr (wtNot (wtVal (wIsT "int" (wOp gIdx (wVar 1) (wC (.int 1)))))) (wtVal (wIsT "bool" (wOp gIdx (wVar 1) (wC (.int 1))))))
  (wsRet (wC (.bl false)))
  wsNil)))
  (wsRet (wOp (gEq false) (wCall SP_law_short (wCons (wVar 0) wNil)) (wVar 0)))))
theorem pure_law_is_short (ds : List D) (x : XS) (R : Rt → Prop) (h : SP_law_is_short ds x R) : W_law_is_short (endsOf R x) (startE 2 ds) := by
  obtain ⟨c, rfl, hl, ok, q⟩ := h
  simp only [W_law_is_short, wVar, wOwn, wC, wOp, onBl, wtOn, wChain, trD, wtVal, wtNot, wAnd, wOr, wAndV, wOrV, wNotV, wIf, wNil, wCons, wTup, wLst, wUn, wNew, gAdd, gInt, gInt0, gMul, gCatF, gRepF, wOpF, gEq, gCmp, gInS, gIsN, isN, gIsB, gIdx, woNone, woSome, gSl, wSl, gSlF, wSlF, wB, wBF, gLen, gInt1, gInt2, gToInt, gListF, tyName, gIsT, wIsT, wCall, Rt.d, Cn.d, onNew, wCallF, wCallN, wCallNF, nlR, wgName, wgNil, wgCons, wgTup, wSeq, wSeqT, wSigns, wRng1, wRng2, wRng3, wRev, wEnum, wZip, wLc, wtYes, wsNil, wsBrk, wsCnt, wsExpr, wsRet, wsRetF, wsRetOwn, wsRetN, wIfS, wsSet, wsSetF, wsAsg, wsPar, wsAug, gApp, gExt, gPop0, gRev, wMut, wsSetIx, wFor, wsRaise, wSeqS, wFrz, wsCallM, wsPopAdd, endsOf, endM, endsM, startM, startE, wipeE, smallI, CPow, Br_true, Br_false, Br_not, rngD_eq, dC, dP, dI, ex_atI_map, atI0, atI1, atI2, kit1, kit2, kit3, kit4, kit5, kit6, kit7, kit8, kit9, kit10, kit11, kit12, kit13, kit14, kit15, kit16, kit17, kit18, kit19, kit20, kit21, kit22, kit23, kit24, kit25, kit26, kit27, kit28, kit29, kit30, kit31, kit32, kit33, kit34, kit35, sizeLine_eq, true_and, and_true, exists_eq_left', Option.some.injEq, List.map_cons, List.map_nil, List.length_cons, List.length_nil, List.length_map, List.length_append, List.cons_append, List.nil_append, List.set_cons_zero, List.set_cons_succ, List.getElem?_cons_zero, List.getElem?_cons_succ, List.getElem?_nil, Nat.reduceSub, Nat.reduceAdd, Nat.zero_add, Nat.sub_self, List.replicate_succ, List.replicate_zero, Bool.false_bne, Bool.true_bne, Bool.false_xor, Bool.true_xor, Bool.not_true, Bool.not_false, Bool.not_not, beq_self_eq_true, Bool.and_true, Bool.true_and, nl, nls, decide_true, decide_false, exists_eq_left, Bool.false_eq_true, Option.some_inj, Int.reduceToNat, Int.reducePow, Int.reduceMul, Int.reduceSub, Int.reduceAdd, Int.reduceNeg, Nat.reducePow, Nat.reduceLeDiff, Int.reduceLE, Int.reduceLT, Int.reduceAbs, Int.natAbs_neg, Nat.reduceLT, divW_eq, mulW_eq, Bool.or_true, Bool.true_or, cut_map, ← List.map_append, ← List.map_reverse, castN, eq_self, Int.reduceEq, deqC, deq_self, rep_map, nls_dP, wsAugIx, tx_cps, tx_len, tx_app, tx_one, tx_nil, tx_cut, tx_signs, tx_rep, lit_empty, tx_inj, wJoin, gJoin, wmCall, wmOpL, wmOpR, wmIxR, wmTup2, wsSetM, wsAppM, wForM, gSum, gAny, gAll, gLtD, gInT, gSorted, gAddT, wThaw, gMaxL, wsRetT, wsRetTF, wmApp, mutW, wNIf, wNIfM, wsNo, nestQ, wNest, isL, wsSetV]
  refine loop_ind (S := Sl) dP (fun s => [.fz (.lst (c.map dP)), s]) (fun _ _ => True) ?_ ?_ _ .un trivial
  · intro s _
    walk_at "s"
    refine ⟨c, rfl, hl, ?_⟩
    walk_at "s"
    exact ⟨⟨nbC (nf_ok ok), nbC ok⟩, q⟩
  · intro p r s L _ ih
    walk_at "s"
    exact ih _ trivial
def SP_law_whole : Spec := fun ds _ R => ∃ i : Int, ds = [.int i] ∧ R (.val (.bl true))
theorem len_law_whole (ds : List D) (x : XS) (R : Rt → Prop) (h : SP_law_whole ds x R) : ds.length = ["_law_found"].length := by
  obtain ⟨t, rfl, _⟩ := h; rfl
def W_law_whole : WS :=
  (wsRet (wAndV (wIsT "int" (wVar 0)) (wNotV (wIsT "bool" (wVar 0)))))
theorem pure_law_whole (ds : List D) (x : XS) (R : Rt → Prop) (h : SP_law_whole ds x R) : W_law_whole (endsOf R x) (startE 1 ds) := by
  obtain ⟨i, rfl, q⟩ := h
  simp only [W_law_whole, wVar, wOwn, wC, wOp, onBl, wtOn, wChain, trD, wtVal, wtNot, wAnd, wOr, wAndV, wOrV, wNotV, wIf, wNil, wCons, wTup, wLst, wUn, wNew, gAdd, gInt, gInt0, gMul, gCatF, gRepF, wOpF, gEq, gCmp, gInS, gIsN, isN, gIsB, gIdx, woNone, woSome, gSl, wSl, gSlF, wSlF, wB, wBF, gLen, gInt1, gInt2, gToInt, gListF, tyName, gIsT, wIsT, wCall, Rt.d, Cn.d, onNew, wCallF, wCallN, wCallNF, nlR, wgName, wgNil, wgCons, wgTup, wSeq, wSeqT, wSigns, wRng1, wRng2, wRng3, wRev, wEnum, wZip, wLc, wtYes, wsNil, wsBrk, wsCnt, wsExpr, wsRet, wsRetF, wsRetOwn, wsRetN, wIfS, wsSet, wsSetF, wsAsg, wsPar, wsAug, gApp, gExt, gPop0, gRev, wMut, wsSetIx, wFor, wsRaise, wSeqS, wFrz, wsCallM, wsPopAdd, endsOf, endM, endsM, startM, startE, wipeE, smallI, CPow, Br_true, Br_false, Br_not, rngD_eq, dC, dP, dI, ex_atI_map, atI0, atI1, atI2, kit1, kit2, kit3, kit4, kit5, kit6, kit7, kit8, kit9, kit10, kit11, kit12, kit13, kit14, kit15, kit16, kit17, kit18, kit19, kit20, kit21, kit22, kit23, kit24, kit25, kit26, kit27, kit28, kit29, kit30, kit31, kit32, kit33, kit34, kit35, sizeLine_eq, true_and, and_true, exists_eq_left', Option.some.injEq, List.map_cons, List.map_nil, List.length_cons, List.length_nil, List.length_map, List.length_append, List.cons_append, List.nil_append, List.set_cons_zero, List.set_cons_succ, List.getElem?_cons_zero, List.getElem?_cons_succ, List.getElem?_nil, Nat.reduceSub, Nat.reduceAdd, Nat.zero_add, Nat.sub_self, List.replicate_succ, List.replicate_zero, Bool.false_bne, Bool.true_bne, Bool.false_xor, Bool.true_xor, Bool.not_true, Bool.not_false, Bool.not_not, beq_self_eq_true, Bool.and_true, Bool.true_and, nl, nls, decide_true, decide_false, exists_eq_left, Bool.false_eq_true, Option.some_inj, Int.reduceToNat, Int.reducePow, Int.reduceMul, Int.reduceSub, Int.reduceAdd, Int.reduceNeg, Nat.reducePow, Nat.reduceLeDiff, Int.reduceLE, Int.reduceLT, Int.reduceAbs, Int.natAbs_neg, Nat.reduceLT, divW_eq, mulW_eq, Bool.or_true, Bool.true_or, cut_map, ← List.map_append, ← List.map_reverse, castN, eq_self, Int.reduceEq, deqC, deq_self, rep_map, nls_dP, wsAugIx, tx_cps, tx_len, tx_app, tx_one, tx_nil, tx_cut, tx_signs, tx_rep, lit_empty, tx_inj, wJoin, gJoin, wmCall, wmOpL, wmOpR, wmIxR, wmTup2, wsSetM, wsAppM, wForM, gSum, gAny, gAll, gLtD, gInT, gSorted, gAddT, wThaw, gMaxL, wsRetT, wsRetTF, wmApp, mutW, wNIf, wNIfM, wsNo, nestQ, wNest, isL, wsSetV]
  exact q
def SP_law_often : Spec := fun ds _ R => ∃ c : List Pc, ds = [dC c] ∧ c.length ≤ 10000 ∧ OkC c ∧ (nf c = [] → R (.val (.int 0))) ∧ ∀ t, Oft c t → R (.val (.int (t : Nat)))
theorem len_law_often (ds : List D) (x : XS) (R : Rt → Prop) (h : SP_law_often ds x R) : ds.length = ["_law_cord_here"].length := by
  obtain ⟨c, rfl, _⟩ := h; rfl
def W_law_often_4 : WS :=
  (wSeqS (wFor (wRng2 (wC (.int 2)) (wOp gAdd (wB gLen (wCons (wVar 1) wNil)) (wC (.int 1)))) (wgName 3)
  (wSeqS (wsSet 4 (wOp (gInt CDivW fun i j => i / j) (wB gLen (wCons (wVar 1) wNil)) (wVar 3)))
  (wIfS (wAnd (wtOn (wOp (gEq false) (wOp gMul (wVar 4) (wVar 3)) (wB gLen (wCons (wVar 1) wNil)))) (wtOn (wOp (gEq false) (wOp gMul (wSl (wVar 1) woNone (woSome (wVar 4))) (wVar 3)) (wVar 1))))
  (wsSet 2 (wVar 3))
  wsNil)))
  (wsRet (wVar 2)))
def W_law_often_2 : WS :=
  (wSeqS (wIfS (wtOn (wOp (gEq false) (wB gLen (wCons (wVar 1) wNil)) (wC (.int 1))))
  (wsRet (wB (gInt1 fun i => if i < 0 then -i else i) (wCons (wOp gIdx (wOp gIdx (wVar 1) (wC (.int 0))) (wC (.int 1))) wNil)))
  wsNil)
  (wSeqS (wsSet 2 (wB gToInt (wCons (wOp (gCmp fun i j => decide (j < i)) (wB gLen (wCons (wVar 1) wNil)) (wC (.int 0))) wNil)))
  W_law_often_4))
def W_law_often : WS :=
  (wSeqS (wsSet 1 (wCall SP_law_short (wCons (wVar 0) wNil)))
  (wSeqS (wWhile (wAnd (wtOn (wOp (gCmp fun i j => decide (j < i)) (wB gLen (wCons (wVar 1) wNil)) (wC (.int 1)))) (wtOn (wOp (gEq false) (wOp gIdx (wOp gIdx (wVar 1) (wC (.int 0))) (wC (.int 0))) (wOp gIdx (wOp gIdx (wVar 1) (wUn (fun i => -i) (wC (.int 1)))) (wC (.int 0))))))
  (wsSet 1 (wCall SP_law_short (wCons (wOp gAdd (wSl (wVar 1) (woSome (wC (.int 1))) woNone) (wNew (wLst (wCons (wOp gIdx (wVar 1) (wC (.int 0))) wNil)))) wNil))))
  W_law_often_2))
theorem law_often_4 {q : DEnds} {c i : List Pc} {s4 : Sl} (i2 : 2 ≤ i.length) (hn : i.length ≤ 100000) (ok : OkC i) (hq : ∀ t ρ, IsRt i t → q.rt (.val (.int (t : Nat))) ρ) :
    W_law_often_4 q [.fz (.lst (c.map dP)), .fz (.lst (i.map dP)), .fz (.int 1), .un, s4] := by
  simp only [W_law_often_4, wVar, wOwn, wC, wOp, onBl, wtOn, wChain, trD, wtVal, wtNot, wAnd, wOr, wAndV, wOrV, wNotV, wIf, wNil, wCons, wTup, wLst, wUn, wNew, gAdd, gInt, gInt0, gMul, gCatF, gRepF, wOpF, gEq, gCmp, gInS, gIsN, isN, gIsB, gIdx, woNone, woSome, gSl, wSl, gSlF, wSlF, wB, wBF, gLen, gInt1, gInt2, gToInt, gListF, tyName, gIsT, wIsT, wCall, Rt.d, Cn.d, onNew, wCallF, wCallN, wCallNF, nlR, wgName, wgNil, wgCons, wgTup, wSeq, wSeqT, wSigns, wRng1, wRng2, wRng3, wRev, wEnum, wZip, wLc, wtYes, wsNil, wsBrk, wsCnt, wsExpr, wsRet, wsRetF, wsRetOwn, wsRetN, wIfS, wsSet, wsSetF, wsAsg, wsPar, wsAug, gApp, gExt, gPop0, gRev, wMut, wsSetIx, wFor, wsRaise, wSeqS, wFrz, wsCallM, wsPopAdd, endsOf, endM, endsM, startM, startE, wipeE, smallI, CPow, Br_true, Br_false, Br_not, rngD_eq, dC, dP, dI, ex_atI_map, atI0, atI1, atI2, kit1, kit2, kit3, kit4, kit5, kit6, kit7, kit8, kit9, kit10, kit11, kit12, kit13, kit14, kit15, kit16, kit17, kit18, kit19, kit20, kit21, kit22, kit23, kit24, kit25, kit26, kit27, kit28, kit29, kit30, kit31, kit32, kit33, kit34, kit35, sizeLine_eq, true_and, and_true, exists_eq_left', Option.some.injEq, List.map_cons, List.map_nil, List.length_cons, List.length_nil, List.length_map, List.length_append, List.cons_append, List.nil_append, List.set_cons_zero, List.set_cons_succ, List.getElem?_cons_zero, List.getElem?_cons_succ, List.getElem?_nil, Nat.reduceSub, Nat.reduceAdd, Nat.zero_add, Nat.sub_self, List.replicate_succ, List.replicate_zero, Bool.false_bne, Bool.true_bne, Bool.false_xor, Bool.true_xor, Bool.not_true, Bool.not_false, Bool.not_not, beq_self_eq_true, Bool.and_true, Bool.true_and, nl, nls, decide_true, decide_false, exists_eq_left, Bool.false_eq_true, Option.some_inj, Int.reduceToNat, Int.reducePow, Int.reduceMul, Int.reduceSub, Int.reduceAdd, Int.reduceNeg, Nat.reducePow, Nat.reduceLeDiff, Int.reduceLE, Int.reduceLT, Int.reduceAbs, Int.natAbs_neg, Nat.reduceLT, divW_eq, mulW_eq, Bool.or_true, Bool.true_or, cut_map, ← List.map_append, ← List.map_reverse, castN, eq_self, Int.reduceEq, deqC, deq_self, rep_map, nls_dP, wsAugIx, tx_cps, tx_len, tx_app, tx_one, tx_nil, tx_cut, tx_signs, tx_rep, lit_empty, tx_inj, wJoin, gJoin, wmCall, wmOpL, wmOpR, wmIxR, wmTup2, wsSetM, wsAppM, wForM, gSum, gAny, gAll, gLtD, gInT, gSorted, gAddT, wThaw, gMaxL, wsRetT, wsRetTF, wmApp, mutW, wNIf, wNIfM, wsNo, nestQ, wNest, isL, wsSetV]
  have i0 : i ≠ [] := fun z => by rw [z] at i2; simp at i2
  refine ⟨by omega, ?_⟩
  refine loop_ind (S := Nat × Sl × Sl) D.int (fun s => [.fz (.lst (c.map dP)), .fz (.lst (i.map dP)), .fz (.int (s.1 : Nat)), s.2.1, s.2.2]) (fun rest s => ∃ k : Nat, rest = rng (k : Int) 1 (i.length + 1 - k) ∧ 2 ≤ k ∧ k ≤ i.length + 1 ∧ Rk i s.1 ∧ 1 ≤ s.1 ∧ ∀ t', Rk i t' → t' < k → t' ≤ s.1) ?_ ?_ _ (1, .un, s4)
    ⟨2, by congr 1; omega, by omega, by omega, ⟨i, (pw_one i).symm⟩, by omega, fun t' _ h => by omega⟩
  · rintro ⟨b, s3, s4⟩ ⟨k, e, k2, hk, hb, b1, best⟩
    have : k = i.length + 1 := by
      have := congrArg List.length e
      rw [rng_len] at this
      simp at this
      omega
    subst this
    walk_at "s"
    refine hq b _ ⟨hb, b1, fun t' ht => ?_⟩
    rcases Nat.eq_zero_or_pos t' with z | z
    · omega
    · refine best t' ht ?_
      obtain ⟨e1, _⟩ := rk_take ht z
      rcases Nat.eq_zero_or_pos (i.length / t') with y | y
      · rw [y] at e1; omega
      · have := Nat.mul_le_mul_right t' y
        omega
  · rintro a rest ⟨b, s3, s4⟩ L ⟨k, e, k2, hk, hb, b1, best⟩ ih
    simp only at hb b1 best
    have hlt : k < i.length + 1 := by
      rcases Nat.lt_or_ge k (i.length + 1) with z | z
      · exact z
      · rw [Nat.sub_eq_zero_of_le z, rng0] at e; cases e
    rw [show i.length + 1 - k = (i.length + 1 - (k + 1)) + 1 by omega, rng_succ] at e
    obtain ⟨rfl, rfl⟩ := List.cons.inj e
    have k0 : 0 ≤ ((i.length : Int) / (k : Int)) := Int.ediv_nonneg (by omega) (by omega)
    have dt : (i.length : Int) / (k : Int) = ((i.length / k : Nat) : Int) := (Int.natCast_ediv _ _).symm
    have no : ¬ Rk i k → L [.fz (.lst (c.map dP)), .fz (.lst (i.map dP)), .fz (.int (b : Nat)), .fz (.int (k : Int)), .fz (.int ((i.length : Int) / (k : Int)))] := fun z => ih (b, _, _) ⟨k + 1, by simp, by omega, by omega, hb, b1, fun t' ht hl => by
      rcases Nat.lt_succ_iff_lt_or_eq.mp hl with h | h
      · exact best t' ht h
      · subst h; exact absurd ht z⟩
    have m0 : i.length / k * k ≤ i.length := Nat.div_mul_le_self _ _
    have d0 : i.length / k ≤ i.length := Nat.div_le_self _ _
    have cm : ((i.length : Int) / (k : Int)) * (k : Int) = ((i.length / k * k : Nat) : Int) := by rw [dt, Int.natCast_mul]
    walk_at "s"
    refine ⟨divWs (by omega) (by omega), mulWn (a := 40) (b := 40) (by omega) (by omega) (by omega), ?_⟩
    rw [cm]
    refine Br.d (fun hm => ?_) (fun hm => ?_)
    · walk_at "s"
      rw [dt, cut_to (Int.natCast_nonneg _)]
      simp only [Int.toNat_natCast]
      obtain ⟨w, hw⟩ : ∃ w, i.take (i.length / k) = w := ⟨_, rfl⟩
      have wl : w.length * k ≤ i.length := by
        rw [← hw, List.length_take, Nat.min_eq_left d0]; exact m0
      simp only [hw]
      have okt : OkC (List.replicate k w).flatten := ok.sub fun p hp => List.mem_of_mem_take (hw ▸ pw_mem hp)
      refine ⟨⟨by omega, by omega, by omega⟩, ⟨nbC okt, nbC ok⟩, ?_⟩
      refine Br.d (fun hp => ?_) (fun hp => ?_)
      · walk_at "s"
        have := ih (k, .fz (.int (k : Int)), .fz (.int ((i.length : Int) / (k : Int)))) ⟨k + 1, by simp, by omega, by omega, ⟨w, hp.symm⟩, by omega, fun t' ht hl => by omega⟩
        exact this
      · have := no fun z => hp (by have := (rk_take z (by omega)).2; rw [hw] at this; exact this)
        rw [List.length_map]
        exact this
    · rw [List.length_map]
      exact no fun z => hm (by have := (rk_take z (by omega)).1; rw [this])
theorem law_often_2 {q : DEnds} {c i : List Pc} (hc : Cyc i) (hj : Cj i c) (hz : i = [] → ∀ ρ, q.rt (.val (.int 0)) ρ) (hn : i.length ≤ 100000) (ok : OkC i) (hq : ∀ t ρ, Oft c t → q.rt (.val (.int (t : Nat))) ρ) :
    W_law_often_2 q [.fz (.lst (c.map dP)), .fz (.lst (i.map dP)), .un, .un, .un] := by
  match i, hc, hj, hz, hn, ok with
  | [], _, _, hz, _, _ =>
    have hz := hz rfl
    simp only [W_law_often_2, wVar, wOwn, wC, wOp, onBl, wtOn, wChain, trD, wtVal, wtNot, wAnd, wOr, wAndV, wOrV, wNotV, wIf, wNil, wCons, wTup, wLst, wUn, wNew, gAdd, gInt, gInt0, gMul, gCatF, gRepF, wOpF, gEq, gCmp, gInS, gIsN, isN, gIsB, gIdx, woNone, woSome, gSl, wSl, gSlF, wSlF, wB, wBF, gLen, gInt1, gInt2, gToInt, gListF, tyName, gIsT, wIsT, wCall, Rt.d, Cn.d, onNew, wCallF, wCallN, wCallNF, nlR, wgName, wgNil, wgCons, wgTup, wSeq, wSeqT, wSigns, wRng1, wRng2, wRng3, wRev, wEnum, wZip, wLc, wtYes, wsNil, wsBrk, wsCnt, wsExpr, wsRet, wsRetF, wsRetOwn, wsRetN, wIfS, wsSet, wsSetF, wsAsg, wsPar, wsAug, gApp, gExt, gPop0, gRev, wMut, wsSetIx, wFor, wsRaise, wSeqS, wFrz, wsCallM, wsPopAdd, endsOf, endM, endsM, startM, startE, wipeE, smallI, CPow, Br_true, Br_false, Br_not, rngD_eq, dC, dP, dI, ex_atI_map, atI0, atI1, atI2, kit1, kit2, kit3, kit4, kit5, kit6, kit7, kit8, kit9, kit10, kit11, kit12, kit13, kit14, kit15, kit16, kit17, kit18, kit19, kit20, kit21, kit22, kit23, kit24, kit25, kit26, kit27, kit28, kit29, kit30, kit31, kit32, kit33, kit34, kit35, sizeLine_eq, true_and, and_true, exists_eq_left', Option.some.injEq, List.map_cons, List.map_nil, List.length_cons, List.length_nil, List.length_map, List.length_append, List.cons_append, List.nil_append, List.set_cons_zero, List.set_cons_succ, List.getElem?_cons_zero, List.getElem?_cons_succ, List.getElem?_nil, Nat.reduceSub, Nat.reduceAdd, Nat.zero_add, Nat.sub_self, List.replicate_succ, List.replicate_zero, Bool.false_bne, Bool.true_bne, Bool.false_xor, Bool.true_xor, Bool.not_true, Bool.not_false, Bool.not_not, beq_self_eq_true, Bool.and_true, Bool.true_and, nl, nls, decide_true, decide_false, exists_eq_left, Bool.false_eq_true, Option.some_inj, Int.reduceToNat, Int.reducePow, Int.reduceMul, Int.reduceSub, Int.reduceAdd, Int.reduceNeg, Nat.reducePow, Nat.reduceLeDiff, Int.reduceLE, Int.reduceLT, Int.reduceAbs, Int.natAbs_neg, Nat.reduceLT, divW_eq, mulW_eq, Bool.or_true, Bool.true_or, cut_map, ← List.map_append, ← List.map_reverse, castN, eq_self, Int.reduceEq, deqC, deq_self, rep_map, nls_dP, wsAugIx, tx_cps, tx_len, tx_app, tx_one, tx_nil, tx_cut, tx_signs, tx_rep, lit_empty, tx_inj, wJoin, gJoin, wmCall, wmOpL, wmOpR, wmIxR, wmTup2, wsSetM, wsAppM, wForM, gSum, gAny, gAll, gLtD, gInT, gSorted, gAddT, wThaw, gMaxL, wsRetT, wsRetTF, wmApp, mutW, wNIf, wNIfM, wsNo, nestQ, wNest, isL, wsSetV]
    simp only [W_law_often_4, wVar, wOwn, wC, wOp, onBl, wtOn, wChain, trD, wtVal, wtNot, wAnd, wOr, wAndV, wOrV, wNotV, wIf, wNil, wCons, wTup, wLst, wUn, wNew, gAdd, gInt, gInt0, gMul, gCatF, gRepF, wOpF, gEq, gCmp, gInS, gIsN, isN, gIsB, gIdx, woNone, woSome, gSl, wSl, gSlF, wSlF, wB, wBF, gLen, gInt1, gInt2, gToInt, gListF, tyName, gIsT, wIsT, wCall, Rt.d, Cn.d, onNew, wCallF, wCallN, wCallNF, nlR, wgName, wgNil, wgCons, wgTup, wSeq, wSeqT, wSigns, wRng1, wRng2, wRng3, wRev, wEnum, wZip, wLc, wtYes, wsNil, wsBrk, wsCnt, wsExpr, wsRet, wsRetF, wsRetOwn, wsRetN, wIfS, wsSet, wsSetF, wsAsg, wsPar, wsAug, gApp, gExt, gPop0, gRev, wMut, wsSetIx, wFor, wsRaise, wSeqS, wFrz, wsCallM, wsPopAdd, endsOf, endM, endsM, startM, startE, wipeE, smallI, CPow, Br_true, Br_false, Br_not, rngD_eq, dC, dP, dI, ex_atI_map, atI0, atI1, atI2, kit1, kit2, kit3, kit4, kit5, kit6, kit7, kit8, kit9, kit10, kit11, kit12, kit13, kit14, kit15, kit16, kit17, kit18, kit19, kit20, kit21, kit22, kit23, kit24, kit25, kit26, kit27, kit28, kit29, kit30, kit31, kit32, kit33, kit34, kit35, sizeLine_eq, true_and, and_true, exists_eq_left', Option.some.injEq, List.map_cons, List.map_nil, List.length_cons, List.length_nil, List.length_map, List.length_append, List.cons_append, List.nil_append, List.set_cons_zero, List.set_cons_succ, List.getElem?_cons_zero, List.getElem?_cons_succ, List.getElem?_nil, Nat.reduceSub, Nat.reduceAdd, Nat.zero_add, Nat.sub_self, List.replicate_succ, List.replicate_zero, Bool.false_bne, Bool.true_bne, Bool.false_xor, Bool.true_xor, Bool.not_true, Bool.not_false, Bool.not_not, beq_self_eq_true, Bool.and_true, Bool.true_and, nl, nls, decide_true, decide_false, exists_eq_left, Bool.false_eq_true, Option.some_inj, Int.reduceToNat, Int.reducePow, Int.reduceMul, Int.reduceSub, Int.reduceAdd, Int.reduceNeg, Nat.reducePow, Nat.reduceLeDiff, Int.reduceLE, Int.reduceLT, Int.reduceAbs, Int.natAbs_neg, Nat.reduceLT, divW_eq, mulW_eq, Bool.or_true, Bool.true_or, cut_map, ← List.map_append, ← List.map_reverse, castN, eq_self, Int.reduceEq, deqC, deq_self, rep_map, nls_dP, wsAugIx, tx_cps, tx_len, tx_app, tx_one, tx_nil, tx_cut, tx_signs, tx_rep, lit_empty, tx_inj, wJoin, gJoin, wmCall, wmOpL, wmOpR, wmIxR, wmTup2, wsSetM, wsAppM, wForM, gSum, gAny, gAll, gLtD, gInT, gSorted, gAddT, wThaw, gMaxL, wsRetT, wsRetTF, wmApp, mutW, wNIf, wNIfM, wsNo, nestQ, wNest, isL, wsSetV]
    exact hz _
  | [(n, v)], hc, hj, _, _, _ =>
    have h := hq v.natAbs
    have va : (if v < 0 then -v else v) = (v.natAbs : Int) := by split <;> omega
    simp only [W_law_often_2, wVar, wOwn, wC, wOp, onBl, wtOn, wChain, trD, wtVal, wtNot, wAnd, wOr, wAndV, wOrV, wNotV, wIf, wNil, wCons, wTup, wLst, wUn, wNew, gAdd, gInt, gInt0, gMul, gCatF, gRepF, wOpF, gEq, gCmp, gInS, gIsN, isN, gIsB, gIdx, woNone, woSome, gSl, wSl, gSlF, wSlF, wB, wBF, gLen, gInt1, gInt2, gToInt, gListF, tyName, gIsT, wIsT, wCall, Rt.d, Cn.d, onNew, wCallF, wCallN, wCallNF, nlR, wgName, wgNil, wgCons, wgTup, wSeq, wSeqT, wSigns, wRng1, wRng2, wRng3, wRev, wEnum, wZip, wLc, wtYes, wsNil, wsBrk, wsCnt, wsExpr, wsRet, wsRetF, wsRetOwn, wsRetN, wIfS, wsSet, wsSetF, wsAsg, wsPar, wsAug, gApp, gExt, gPop0, gRev, wMut, wsSetIx, wFor, wsRaise, wSeqS, wFrz, wsCallM, wsPopAdd, endsOf, endM, endsM, startM, startE, wipeE, smallI, CPow, Br_true, Br_false, Br_not, rngD_eq, dC, dP, dI, ex_atI_map, atI0, atI1, atI2, kit1, kit2, kit3, kit4, kit5, kit6, kit7, kit8, kit9, kit10, kit11, kit12, kit13, kit14, kit15, kit16, kit17, kit18, kit19, kit20, kit21, kit22, kit23, kit24, kit25, kit26, kit27, kit28, kit29, kit30, kit31, kit32, kit33, kit34, kit35, sizeLine_eq, true_and, and_true, exists_eq_left', Option.some.injEq, List.map_cons, List.map_nil, List.length_cons, List.length_nil, List.length_map, List.length_append, List.cons_append, List.nil_append, List.set_cons_zero, List.set_cons_succ, List.getElem?_cons_zero, List.getElem?_cons_succ, List.getElem?_nil, Nat.reduceSub, Nat.reduceAdd, Nat.zero_add, Nat.sub_self, List.replicate_succ, List.replicate_zero, Bool.false_bne, Bool.true_bne, Bool.false_xor, Bool.true_xor, Bool.not_true, Bool.not_false, Bool.not_not, beq_self_eq_true, Bool.and_true, Bool.true_and, nl, nls, decide_true, decide_false, exists_eq_left, Bool.false_eq_true, Option.some_inj, Int.reduceToNat, Int.reducePow, Int.reduceMul, Int.reduceSub, Int.reduceAdd, Int.reduceNeg, Nat.reducePow, Nat.reduceLeDiff, Int.reduceLE, Int.reduceLT, Int.reduceAbs, Int.natAbs_neg, Nat.reduceLT, divW_eq, mulW_eq, Bool.or_true, Bool.true_or, cut_map, ← List.map_append, ← List.map_reverse, castN, eq_self, Int.reduceEq, deqC, deq_self, rep_map, nls_dP, wsAugIx, tx_cps, tx_len, tx_app, tx_one, tx_nil, tx_cut, tx_signs, tx_rep, lit_empty, tx_inj, wJoin, gJoin, wmCall, wmOpL, wmOpR, wmIxR, wmTup2, wsSetM, wsAppM, wForM, gSum, gAny, gAll, gLtD, gInT, gSorted, gAddT, wThaw, gMaxL, wsRetT, wsRetTF, wmApp, mutW, wNIf, wNIfM, wsNo, nestQ, wNest, isL, wsSetV]
    rw [va]
    exact h _ ⟨_, hc, hj, .inl ⟨n, v, rfl, rfl⟩⟩
  | a :: b :: r, hc, hj, _, hn, ok =>
    obtain ⟨i, hi⟩ : ∃ i, a :: b :: r = i := ⟨_, rfl⟩
    have i2 : 2 ≤ i.length := by rw [← hi]; simp
    rw [hi] at hc hj hn ok ⊢
    have pos : decide (0 < (i.length : Int)) = true := by rw [decide_eq_true_eq]; omega
    simp only [W_law_often_2, wVar, wOwn, wC, wOp, onBl, wtOn, wChain, trD, wtVal, wtNot, wAnd, wOr, wAndV, wOrV, wNotV, wIf, wNil, wCons, wTup, wLst, wUn, wNew, gAdd, gInt, gInt0, gMul, gCatF, gRepF, wOpF, gEq, gCmp, gInS, gIsN, isN, gIsB, gIdx, woNone, woSome, gSl, wSl, gSlF, wSlF, wB, wBF, gLen, gInt1, gInt2, gToInt, gListF, tyName, gIsT, wIsT, wCall, Rt.d, Cn.d, onNew, wCallF, wCallN, wCallNF, nlR, wgName, wgNil, wgCons, wgTup, wSeq, wSeqT, wSigns, wRng1, wRng2, wRng3, wRev, wEnum, wZip, wLc, wtYes, wsNil, wsBrk, wsCnt, wsExpr, wsRet, wsRetF, wsRetOwn, wsRetN, wIfS, wsSet, wsSetF, wsAsg, wsPar, wsAug, gApp, gExt, gPop0, gRev, wMut, wsSetIx, wFor, wsRaise, wSeqS, wFrz, wsCallM, wsPopAdd, endsOf, endM, endsM, startM, startE, wipeE, smallI, CPow, Br_true, Br_false, Br_not, rngD_eq, dC, dP, dI, ex_atI_map, atI0, atI1, atI2, kit1, kit2, kit3, kit4, kit5, kit6, kit7, kit8, kit9, kit10, kit11, kit12, kit13, kit14, kit15, kit16, kit17, kit18, kit19, kit20, kit21, kit22, kit23, kit24, kit25, kit26, kit27, kit28, kit29, kit30, kit31, kit32, kit33, kit34, kit35, sizeLine_eq, true_and, and_true, exists_eq_left', Option.some.injEq, List.map_cons, List.map_nil, List.length_cons, List.length_nil, List.length_map, List.length_append, List.cons_append, List.nil_append, List.set_cons_zero, List.set_cons_succ, List.getElem?_cons_zero, List.getElem?_cons_succ, List.getElem?_nil, Nat.reduceSub, Nat.reduceAdd, Nat.zero_add, Nat.sub_self, List.replicate_succ, List.replicate_zero, Bool.false_bne, Bool.true_bne, Bool.false_xor, Bool.true_xor, Bool.not_true, Bool.not_false, Bool.not_not, beq_self_eq_true, Bool.and_true, Bool.true_and, nl, nls, decide_true, decide_false, exists_eq_left, Bool.false_eq_true, Option.some_inj, Int.reduceToNat, Int.reducePow, Int.reduceMul, Int.reduceSub, Int.reduceAdd, Int.reduceNeg, Nat.reducePow, Nat.reduceLeDiff, Int.reduceLE, Int.reduceLT, Int.reduceAbs, Int.natAbs_neg, Nat.reduceLT, divW_eq, mulW_eq, Bool.or_true, Bool.true_or, cut_map, ← List.map_append, ← List.map_reverse, castN, eq_self, Int.reduceEq, deqC, deq_self, rep_map, nls_dP, wsAugIx, tx_cps, tx_len, tx_app, tx_one, tx_nil, tx_cut, tx_signs, tx_rep, lit_empty, tx_inj, wJoin, gJoin, wmCall, wmOpL, wmOpR, wmIxR, wmTup2, wsSetM, wsAppM, wForM, gSum, gAny, gAll, gLtD, gInT, gSorted, gAddT, wThaw, gMaxL, wsRetT, wsRetTF, wmApp, mutW, wNIf, wNIfM, wsNo, nestQ, wNest, isL, wsSetV]
    refine Br.f (by omega) ?_
    walk_at "s"
    simp only [pos, if_true]
    exact law_often_4 i2 hn ok fun t ρ h => hq t ρ ⟨i, hc, hj, .inr ⟨i2, h⟩⟩
theorem pure_law_often (ds : List D) (x : XS) (R : Rt → Prop) (h : SP_law_often ds x R) : W_law_often (endsOf R x) (startE 5 ds) := by
  obtain ⟨c, rfl, hl, ok, q0, q⟩ := h
  simp only [W_law_often, wVar, wOwn, wC, wOp, onBl, wtOn, wChain, trD, wtVal, wtNot, wAnd, wOr, wAndV, wOrV, wNotV, wIf, wNil, wCons, wTup, wLst, wUn, wNew, gAdd, gInt, gInt0, gMul, gCatF, gRepF, wOpF, gEq, gCmp, gInS, gIsN, isN, gIsB, gIdx, woNone, woSome, gSl, wSl, gSlF, wSlF, wB, wBF, gLen, gInt1, gInt2, gToInt, gListF, tyName, gIsT, wIsT, wCall, Rt.d, Cn.d, onNew, wCallF, wCallN, wCallNF, nlR, wgName, wgNil, wgCons, wgTup, wSeq, wSeqT, wSigns, wRng1, wRng2, wRng3, wRev, wEnum, wZip, wLc, wtYes, wsNil, wsBrk, wsCnt, wsExpr, wsRet, wsRetF, wsRetOwn, wsRetN, wIfS, wsSet, wsSetF, wsAsg, wsPar, wsAug, gApp, gExt, gPop0, gRev, wMut, wsSetIx, wFor, wsRaise, wSeqS, wFrz, wsCallM, wsPopAdd, endsOf, endM, endsM, startM, startE, wipeE, smallI, CPow, Br_true, Br_false, Br_not, rngD_eq, dC, dP, dI, ex_atI_map, atI0, atI1, atI2, kit1, kit2, kit3, kit4, kit5, kit6, kit7, kit8, kit9, kit10, kit11, kit12, kit13, kit14, kit15, kit16, kit17, kit18, kit19, kit20, kit21, kit22, kit23, kit24, kit25, kit26, kit27, kit28, kit29, kit30, kit31, kit32, kit33, kit34, kit35, sizeLine_eq, true_and, and_true, exists_eq_left', Option.some.injEq, List.map_cons, List.map_nil, List.length_cons, List.length_nil, List.length_map, List.length_append, List.cons_append, List.nil_append, List.set_cons_zero, List.set_cons_succ, List.getElem?_cons_zero, List.getElem?_cons_succ, List.getElem?_nil, Nat.reduceSub, Nat.reduceAdd, Nat.zero_add, Nat.sub_self, List.replicate_succ, List.replicate_zero, Bool.false_bne, Bool.true_bne, Bool.false_xor, Bool.true_xor, Bool.not_true, Bool.not_false, Bool.not_not, beq_self_eq_true, Bool.and_true, Bool.true_and, nl, nls, decide_true, decide_false, exists_eq_left, Bool.false_eq_true, Option.some_inj, Int.reduceToNat, Int.reducePow, Int.reduceMul, Int.reduceSub, Int.reduceAdd, Int.reduceNeg, Nat.reducePow, Nat.reduceLeDiff, Int.reduceLE, Int.reduceLT, Int.reduceAbs, Int.natAbs_neg, Nat.reduceLT, divW_eq, mulW_eq, Bool.or_true, Bool.true_or, cut_map, ← List.map_append, ← List.map_reverse, castN, eq_self, Int.reduceEq, deqC, deq_self, rep_map, nls_dP, wsAugIx, tx_cps, tx_len, tx_app, tx_one, tx_nil, tx_cut, tx_signs, tx_rep, lit_empty, tx_inj, wJoin, gJoin, wmCall, wmOpL, wmOpR, wmIxR, wmTup2, wsSetM, wsAppM, wForM, gSum, gAny, gAll, gLtD, gInT, gSorted, gAddT, wThaw, gMaxL, wsRetT, wsRetTF, wmApp, mutW, wNIf, wNIfM, wsNo, nestQ, wNest, isL, wsSetV]
  refine ⟨c, rfl, by omega, ?_⟩
  walk_at "s"
  have ln := nf_len c
  refine while_ind (S := List Pc) (fun s => [.fz (.lst (c.map dP)), .fz (.lst (s.map dP)), .un, .un, .un]) (fun m s => m = s.length ∧ Red s ∧ Cj s c ∧ s.length ≤ c.length ∧ OkC s) ?_ (nf c).length (nf c) ⟨rfl, nf_red c, .of (nf_nf c), ln, nf_ok ok⟩
  rintro m s L ⟨h1, h2, h3, h4, h5⟩ ih
  have s0 : s = [] → nf c = [] := fun z => by
    obtain ⟨u, hu⟩ := h3
    rw [z, List.append_nil, nf_con] at hu
    exact hu.symm
  have fin : Cyc s → W_law_often_2 (endsOf R x) [.fz (.lst (c.map dP)), .fz (.lst (s.map dP)), .un, .un, .un] := fun cy =>
    law_often_2 cy h3 (fun z _ => q0 (s0 z)) (by omega) h5 fun t ρ h6 => q t h6
  walk_at "s"
  rcases s with _ | ⟨p, t⟩
  · refine Br.f (by simp) ?_
    exact fin ⟨h2, fun h => by simp at h⟩
  rcases List.eq_nil_or_concat t with z | ⟨m', l, z⟩
  · subst z
    refine Br.f (by simp) ?_
    exact fin ⟨h2, fun h => by simp at h⟩
  rw [List.concat_eq_append] at z
  subst z
  simp only [List.length_cons, List.length_append, List.length_nil] at h1 h4
  refine Br.t (by simp; omega) ?_
  have i1 : atI (p :: (m' ++ [l])) 0 = some p := atI0
  have i2 : atI (p :: (m' ++ [l])) (-1) = some l := by
    rw [atI_neg1, ← List.cons_append, List.getLast?_append]; rfl
  have ec : cut (p :: (m' ++ [l])) (some 1) none = m' ++ [l] := by rw [cut_from (by omega)]; rfl
  refine ⟨.tup [.str p.1, .int p.2], by rw [atI_map, i1]; rfl, ?_⟩
  walk_at "s"
  refine ⟨.tup [.str l.1, .int l.2], by show atI (List.map dP (p :: (m' ++ [l]))) (-1) = _; rw [atI_map, i2]; rfl, ?_⟩
  walk_at "s"
  refine Br.d (fun he => ?_) (fun he => ?_)
  · have el : nf (m' ++ [l, p]) = nf (m' ++ [(p.1, l.2 + p.2)]) := by
      obtain ⟨n1, t1⟩ := p
      obtain ⟨n2, t2⟩ := l
      simp only at he
      subst he
      rw [nf_app, nf_app]
      congr 1
      exact ps_ps (w := []) trivial
    have cj : Cj (nf (m' ++ [l, p])) c := by
      refine (Cj.of (nf_nf _)).trans (Cj.trans (Rot.cj ?_) h3)
      exact ⟨m' ++ [l], [p], by simp, rfl⟩
    have h6 := nf_len (m' ++ [((p.1, l.2 + p.2) : Pc)])
    simp only [List.length_append, List.length_singleton] at h6
    refine ⟨dP p, by rw [atI_map, i1]; rfl, ?_⟩
    rw [cut_map, ec]
    have hz : (m' ++ [l]).map dP ++ [dP p] = (m' ++ [l, p]).map dP := by simp
    rw [hz]
    refine ⟨by rw [sizeLine_eq]; omega, by rw [sizeLine_eq]; simp; omega, ?_⟩
    refine ⟨m' ++ [l, p], rfl, by simp; omega, ?_⟩
    refine ih (nf (m' ++ [l, p])).length _ (by rw [el]; omega) ⟨rfl, nf_red _, cj, by rw [el]; omega, nf_ok (h5.sub fun r hr => ?_)⟩
    simp at hr ⊢
    rcases hr with h | h | h <;> simp [h]
  · refine fin ⟨h2, fun _ a b ha hb => ?_⟩
    simp only [List.head?_cons, Option.some.injEq] at ha
    rw [← List.cons_append, List.getLast?_append] at hb
    simp only [List.getLast?_singleton, Option.some_or, Option.some.injEq] at hb
    subst ha hb
    exact he
def SP_law_shared : Spec := fun ds _ R => ∃ c d : List Pc, ds = [dC c, dC d] ∧ Lim c ∧ Lim d ∧ R (.val (.bl true))
theorem len_law_shared (ds : List D) (x : XS) (R : Rt → Prop) (h : SP_law_shared ds x R) : ds.length = ["_law_one", "_law_other"].length := by
  obtain ⟨t, d, rfl, _⟩ := h; rfl
theorem deq_nil {α : Type} {f : α → D} {xs : List α} : deq (.lst (xs.map f)) (.lst []) = decide (xs = []) := deq_dec (by cases xs <;> simp)
def OftZ (c : List Pc) (S : Nat) : Prop := (nf c = [] ∧ S = 0) ∨ (nf c ≠ [] ∧ Oft c S)
theorem oft_ne {c : List Pc} {t : Nat} (h : Oft c t) : nf c ≠ [] := by
  obtain ⟨i, i1, ⟨u, hu⟩, i3⟩ := h
  refine led_ne i1.1 (fun z => ?_) hu
  rcases i3 with ⟨n, v, rfl, _⟩ | ⟨h2, _⟩
  · cases z
  · rw [z] at h2; simp at h2
theorem ask_often {c : List Pc} {S : Nat} {x : XS} {R : Rt → Prop} (hl : c.length ≤ 10000) (ok : OkC c) (h : OftZ c S) (q : R (.val (.int (S : Nat)))) : SP_law_often [dC c] x R := by
  refine ⟨c, rfl, hl, ok, fun z => ?_, fun t ht => ?_⟩
  · rcases h with ⟨_, rfl⟩ | ⟨h, _⟩
    · exact q
    · exact absurd z h
  · rcases h with ⟨h, _⟩ | ⟨_, h⟩
    · exact absurd h (oft_ne ht)
    · rw [ht.eq h (.of rfl)]
      exact q
structure PwOk (g : List Pc) (t : Int) : Prop where
  l : g.length ≤ 100000
  b : t.natAbs < 2 ^ 200
  z : nf g = [] → t.natAbs < 1000000
  f : ∀ b, Cyc b → Cj b g → 2 ≤ b.length → b.length * t.natAbs ≤ 100000
  e : ∀ n, (exN n g).natAbs < 2 ^ 200
theorem ask_pow {g : List Pc} {t : Int} {x : XS} {R : Rt → Prop} (h : PwOk g t) (q : R (.new (.lst ((nf (zpw t g)).map dP)))) : SP_law_powered 3 [dC g, .int t] x R :=
  show SP_law_powered (2 + 1) _ _ _ from ⟨g, t, rfl, h.l, fun _ => by decide, h.b, h.z, h.f, h.e, q⟩
structure Shr (c d g : List Pc) (a b : Int) : Prop where
  com : nf (c ++ d) = nf (d ++ c)
  red : Red g
  ok : OkC g
  oc : OftZ c a.natAbs
  a0 : 0 ≤ a
  od : OftZ d b.natAbs
  n1 : nf c = [] → nf d = [] → g = []
  n2 : nf c = [] → 0 ≤ b
  p1 : PwOk g a
  p2 : PwOk g b
  e1 : nf (zpw a g) = nf c
  e2 : nf (zpw b g) = nf d
theorem oft0 {c : List Pc} {S : Nat} (h : OftZ c S) : S = 0 ↔ nf c = [] := by
  rcases h with ⟨h, rfl⟩ | ⟨h, i, _, _, i3⟩
  · exact ⟨fun _ => h, fun _ => rfl⟩
  · refine ⟨fun z => ?_, fun z => absurd z h⟩
    rcases i3 with ⟨n, v, rfl, e⟩ | ⟨_, i3⟩
    · rename_i hc _
      have : v ≠ 0 := hc.1
      omega
    · have := i3.2.1
      omega
def W_law_shared_8 : WS :=
  (wSeqS (wIfS (wOr (wtOn (wOp (gEq true) (wOp gIdx (wVar 3) (wC (.int 1))) (wVar 4))) (wtOn (wOp (gEq true) (wB (gInt1 fun i => if i < 0 then -i else i) (wCons (wOp gIdx (wVar 3) (wC (.int 2))) wNil)) (wVar 5))))
  (wsRet (wC (.bl false)))
  wsNil)
  (wSeqS (wIfS (wAnd (wtOn (wOp (gEq false) (wVar 4) (wC (.int 0)))) (wtOn (wOp (gEq false) (wVar 5) (wC (.int 0)))))
  (wsRet (wOp (gEq false) (wOp gIdx (wVar 3) (wC (.int 0))) (wNew (wLst wNil))))
  wsNil)
  (wSeqS (wIfS (wAnd (wtOn (wOp (gEq false) (wVar 4) (wC (.int 0)))) (wtOn (wOp (gCmp fun i j => decide (i < j)) (wOp gIdx (wVar 3) (wC (.int 2))) (wC (.int 0)))))
  (wsRet (wC (.bl false)))
  wsNil)
  (wSeqS (wIfS (wtOn (wOp (gEq true) (wCall (SP_law_powered 3) (wCons (wOp gIdx (wVar 3) (wC (.int 0))) (wCons (wOp gIdx (wVar 3) (wC (.int 1))) wNil))) (wCall SP_law_short (wCons (wVar 0) wNil))))
  (wsRet (wC (.bl false)))
  wsNil)
  (wsRet (wOp (gEq false) (wCall (SP_law_powered 3) (wCons (wOp gIdx (wVar 3) (wC (.int 0))) (wCons (wOp gIdx (wVar 3) (wC (.int 2))) wNil))) (wCall SP_law_short (wCons (wVar 1) wNil))))))))
def W_law_shared_4 : WS :=
  (wSeqS (wIfS (wOr (wtNot (wtVal (wIsT "tuple" (wVar 3)))) (wOr (wtOn (wOp (gEq true) (wB gLen (wCons (wVar 3) wNil)) (wC (.int 3)))) (wtNot (wtVal (wCall SP_law_is_short (wCons (wOp gIdx (wVar 3) (wC (.int 0))) wNil))))))
  (wsRet (wC (.bl false)))
  wsNil)
  (wSeqS (wIfS (wOr (wtNot (wtVal (wCall SP_law_whole (wCons (wOp gIdx (wVar 3) (wC (.int 1))) wNil)))) (wtNot (wtVal (wCall SP_law_whole (wCons (wOp gIdx (wVar 3) (wC (.int 2))) wNil)))))
  (wsRet (wC (.bl false)))
  wsNil)
  (wSeqS (wsSet 4 (wCall SP_law_often (wCons (wVar 0) wNil)))
  (wSeqS (wsSet 5 (wCall SP_law_often (wCons (wVar 1) wNil)))
  W_law_shared_8))))
def W_law_shared_3 : WS :=
  (wSeqS (wIfS (wtOn (wOp (gEq true) (wCall SP_law_short (wCons (wOp gAdd (wVar 0) (wVar 1)) wNil)) (wCall SP_law_short (wCons (wOp gAdd (wVar 1) (wVar 0)) wNil))))
  (wsRet (wOp (gIsN false) (wVar 3) (wC .non)))
  wsNil)
  W_law_shared_4)
def W_law_shared_2 : WS :=
  (wSeqS (wIfS (wtOn (wOp (gEq true) (wVar 2) (wNew (wLst (wCons (wVar 0) (wCons (wVar 1) wNil))))))
  (wsRet (wC (.bl false)))
  wsNil)
  W_law_shared_3)
def W_law_shared : WS :=
  (wSeqS (wsSet 2 (wNew (wLst (wCons (wNew (wBF gListF (wCons (wVar 0) wNil))) (wCons (wNew (wBF gListF (wCons (wVar 1) wNil))) wNil)))))
  (wSeqS (wsSet 3 (wCall SP_common_root (wCons (wOp gIdx (wVar 2) (wC (.int 0))) (wCons (wOp gIdx (wVar 2) (wC (.int 1))) wNil))))
  W_law_shared_2))
theorem shared_4 {R : Rt → Prop} {x : XS} {c d g : List Pc} {a b : Int} {s2 : Sl} (hc : Lim c) (hd : Lim d) (h : Shr c d g a b) (q : R (.val (.bl true))) : W_law_shared_4 (endsOf R x) [.fz (dC c), .fz (dC d), s2, .fz (.tup [dC g, .int a, .int b]), .un, .un] := by
  obtain ⟨hc, okc, exc⟩ := hc
  obtain ⟨hd, okd, exd⟩ := hd
  have gl := h.p1.l
  simp only [W_law_shared_4, wVar, wOwn, wC, wOp, onBl, wtOn, wChain, trD, wtVal, wtNot, wAnd, wOr, wAndV, wOrV, wNotV, wIf, wNil, wCons, wTup, wLst, wUn, wNew, gAdd, gInt, gInt0, gMul, gCatF, gRepF, wOpF, gEq, gCmp, gInS, gIsN, isN, gIsB, gIdx, woNone, woSome, gSl, wSl, gSlF, wSlF, wB, wBF, gLen, gInt1, gInt2, gToInt, gListF, tyName, gIsT, wIsT, wCall, Rt.d, Cn.d, onNew, wCallF, wCallN, wCallNF, nlR, wgName, wgNil, wgCons, wgTup, wSeq, wSeqT, wSigns, wRng1, wRng2, wRng3, wRev, wEnum, wZip, wLc, wtYes, wsNil, wsBrk, wsCnt, wsExpr, wsRet, wsRetF, wsRetOwn, wsRetN, wIfS, wsSet, wsSetF, wsAsg, wsPar, wsAug, gApp, gExt, gPop0, gRev, wMut, wsSetIx, wFor, wsRaise, wSeqS, wFrz, wsCallM, wsPopAdd, endsOf, endM, endsM, startM, startE, wipeE, smallI, CPow, Br_true, Br_false, Br_not, rngD_eq, dC, dP, dI, ex_atI_map, atI0, atI1, atI2, kit1, kit2, kit3, kit4, kit5, kit6, kit7, kit8, kit9, kit10, kit11, kit12, kit13, kit14, kit15, kit16, kit17, kit18, kit19, kit20, kit21, kit22, kit23, kit24, kit25, kit26, kit27, kit28, kit29, kit30, kit31, kit32, kit33, kit34, kit35, sizeLine_eq, true_and, and_true, exists_eq_left', Option.some.injEq, List.map_cons, List.map_nil, List.length_cons, List.length_nil, List.length_map, List.length_append, List.cons_append, List.nil_append, List.set_cons_zero, List.set_cons_succ, List.getElem?_cons_zero, List.getElem?_cons_succ, List.getElem?_nil, Nat.reduceSub, Nat.reduceAdd, Nat.zero_add, Nat.sub_self, List.replicate_succ, List.replicate_zero, Bool.false_bne, Bool.true_bne, Bool.false_xor, Bool.true_xor, Bool.not_true, Bool.not_false, Bool.not_not, beq_self_eq_true, Bool.and_true, Bool.true_and, nl, nls, decide_true, decide_false, exists_eq_left, Bool.false_eq_true, Option.some_inj, Int.reduceToNat, Int.reducePow, Int.reduceMul, Int.reduceSub, Int.reduceAdd, Int.reduceNeg, Nat.reducePow, Nat.reduceLeDiff, Int.reduceLE, Int.reduceLT, Int.reduceAbs, Int.natAbs_neg, Nat.reduceLT, divW_eq, mulW_eq, Bool.or_true, Bool.true_or, cut_map, ← List.map_append, ← List.map_reverse, castN, eq_self, Int.reduceEq, deqC, deq_self, rep_map, nls_dP, wsAugIx, tx_cps, tx_len, tx_app, tx_one, tx_nil, tx_cut, tx_signs, tx_rep, lit_empty, tx_inj, wJoin, gJoin, wmCall, wmOpL, wmOpR, wmIxR, wmTup2, wsSetM, wsAppM, wForM, gSum, gAny, gAll, gLtD, gInT, gSorted, gAddT, wThaw, gMaxL, wsRetT, wsRetTF, wmApp, mutW, wNIf, wNIfM, wsNo, nestQ, wNest, isL, wsSetV]
  refine ⟨g, rfl, by omega, h.ok, ?_⟩
  rw [decide_eq_true (red_nf h.red)]
  walk_at "s"
  refine ⟨a, rfl, ?_⟩
  walk_at "s"
  refine ⟨b, rfl, ?_⟩
  walk_at "s"
  refine ask_often (by omega) okc h.oc ?_
  walk_at "s"
  refine ask_often (by omega) okd h.od ?_
  walk_at "s"
  have a0 := h.a0
  have ea : ((a.natAbs : Nat) : Int) = a := by omega
  have eb : (if b < 0 then -b else b) = ((b.natAbs : Nat) : Int) := by split <;> omega
  have ta := (oft0 h.oc)
  have tb := (oft0 h.od)
  simp only [W_law_shared_8, wVar, wOwn, wC, wOp, onBl, wtOn, wChain, trD, wtVal, wtNot, wAnd, wOr, wAndV, wOrV, wNotV, wIf, wNil, wCons, wTup, wLst, wUn, wNew, gAdd, gInt, gInt0, gMul, gCatF, gRepF, wOpF, gEq, gCmp, gInS, gIsN, isN, gIsB, gIdx, woNone, woSome, gSl, wSl, gSlF, wSlF, wB, wBF, gLen, gInt1, gInt2, gToInt, gListF, tyName, gIsT, wIsT, wCall, Rt.d, Cn.d, onNew, wCallF, wCallN, wCallNF, nlR, wgName, wgNil, wgCons, wgTup, wSeq, wSeqT, wSigns, wRng1, wRng2, wRng3, wRev, wEnum, wZip, wLc, wtYes, wsNil, wsBrk, wsCnt, wsExpr, wsRet, wsRetF, wsRetOwn, wsRetN, wIfS, wsSet, wsSetF, wsAsg, wsPar, wsAug, gApp, gExt, gPop0, gRev, wMut, wsSetIx, wFor, wsRaise, wSeqS, wFrz, wsCallM, wsPopAdd, endsOf, endM, endsM, startM, startE, wipeE, smallI, CPow, Br_true, Br_false, Br_not, rngD_eq, dC, dP, dI, ex_atI_map, atI0, atI1, atI2, kit1, kit2, kit3, kit4, kit5, kit6, kit7, kit8, kit9, kit10, kit11, kit12, kit13, kit14, kit15, kit16, kit17, kit18, kit19, kit20, kit21, kit22, kit23, kit24, kit25, kit26, kit27, kit28, kit29, kit30, kit31, kit32, kit33, kit34, kit35, sizeLine_eq, true_and, and_true, exists_eq_left', Option.some.injEq, List.map_cons, List.map_nil, List.length_cons, List.length_nil, List.length_map, List.length_append, List.cons_append, List.nil_append, List.set_cons_zero, List.set_cons_succ, List.getElem?_cons_zero, List.getElem?_cons_succ, List.getElem?_nil, Nat.reduceSub, Nat.reduceAdd, Nat.zero_add, Nat.sub_self, List.replicate_succ, List.replicate_zero, Bool.false_bne, Bool.true_bne, Bool.false_xor, Bool.true_xor, Bool.not_true, Bool.not_false, Bool.not_not, beq_self_eq_true, Bool.and_true, Bool.true_and, nl, nls, decide_true, decide_false, exists_eq_left, Bool.false_eq_true, Option.some_inj, Int.reduceToNat, Int.reducePow, Int.reduceMul, Int.reduceSub, Int.reduceAdd, Int.reduceNeg, Nat.reducePow, Nat.reduceLeDiff, Int.reduceLE, Int.reduceLT, Int.reduceAbs, Int.natAbs_neg, Nat.reduceLT, divW_eq, mulW_eq, Bool.or_true, Bool.true_or, cut_map, ← List.map_append, ← List.map_reverse, castN, eq_self, Int.reduceEq, deqC, deq_self, rep_map, nls_dP, wsAugIx, tx_cps, tx_len, tx_app, tx_one, tx_nil, tx_cut, tx_signs, tx_rep, lit_empty, tx_inj, wJoin, gJoin, wmCall, wmOpL, wmOpR, wmIxR, wmTup2, wsSetM, wsAppM, wForM, gSum, gAny, gAll, gLtD, gInT, gSorted, gAddT, wThaw, gMaxL, wsRetT, wsRetTF, wmApp, mutW, wNIf, wNIfM, wsNo, nestQ, wNest, isL, wsSetV]
  rw [ea]
  refine Br.t rfl ?_
  walk_at "s"
  refine Br.t eb ?_
  walk_at "s"
  refine Br.d (fun A => ?_) (fun A => ?_)
  · walk_at "s"
    have c0 := ta.mp (by omega)
    refine Br.d (fun B => ?_) (fun B => ?_)
    · walk_at "s"
      have d0 := tb.mp (by omega)
      refine ⟨⟨nbC h.ok, rfl⟩, ?_⟩
      rw [deq_nil, decide_eq_true (h.n1 c0 d0)]
      exact q
    · walk_at "s"
      refine Br.t A ?_
      walk_at "s"
      have := h.n2 c0
      refine Br.f (by omega) ?_
      walk_at "s"
      refine ask_pow h.p1 ?_
      walk_at "s"
      refine ⟨c, rfl, by omega, ?_⟩
      walk_at "s"
      rw [h.e1]
      refine ⟨⟨nbC (nf_ok okc), nbC (nf_ok okc)⟩, ?_⟩
      try refine Br.t rfl ?_
      walk_at "s"
      refine ask_pow h.p2 ?_
      walk_at "s"
      refine ⟨d, rfl, by omega, ?_⟩
      walk_at "s"
      rw [h.e2]
      refine ⟨⟨nbC (nf_ok okd), nbC (nf_ok okd)⟩, ?_⟩
      first
        | exact q
        | (simp only [decide_true]; exact q)
  · walk_at "s"
    refine Br.f A ?_
    walk_at "s"
    refine ask_pow h.p1 ?_
    walk_at "s"
    refine ⟨c, rfl, by omega, ?_⟩
    walk_at "s"
    rw [h.e1]
    refine ⟨⟨nbC (nf_ok okc), nbC (nf_ok okc)⟩, ?_⟩
    try refine Br.t rfl ?_
    walk_at "s"
    refine ask_pow h.p2 ?_
    walk_at "s"
    refine ⟨d, rfl, by omega, ?_⟩
    walk_at "s"
    rw [h.e2]
    refine ⟨⟨nbC (nf_ok okd), nbC (nf_ok okd)⟩, ?_⟩
    first
      | exact q
      | (simp only [decide_true]; exact q)
theorem shared_3 {R : Rt → Prop} {x : XS} {c d : List Pc} {s2 : Sl} (hc : Lim c) (hd : Lim d) (q : R (.val (.bl true))) : (nf (c ++ d) ≠ nf (d ++ c) → W_law_shared_3 (endsOf R x) [.fz (dC c), .fz (dC d), s2, .fz .non, .un, .un]) ∧
    ∀ g a b, Shr c d g a b → W_law_shared_3 (endsOf R x) [.fz (dC c), .fz (dC d), s2, .fz (.tup [dC g, .int a, .int b]), .un, .un] := by
  have hc' := hc.1
  have hd' := hd.1
  have o1 : OkC (nf (c ++ d)) := nf_ok (hc.2.1.app hd.2.1)
  have o2 : OkC (nf (d ++ c)) := nf_ok (hd.2.1.app hc.2.1)
  refine ⟨fun h => ?_, fun g a b h => ?_⟩
  · simp only [W_law_shared_3, wVar, wOwn, wC, wOp, onBl, wtOn, wChain, trD, wtVal, wtNot, wAnd, wOr, wAndV, wOrV, wNotV, wIf, wNil, wCons, wTup, wLst, wUn, wNew, gAdd, gInt, gInt0, gMul, gCatF, gRepF, wOpF, gEq, gCmp, gInS, gIsN, isN, gIsB, gIdx, woNone, woSome, gSl, wSl, gSlF, wSlF, wB, wBF, gLen, gInt1, gInt2, gToInt, gListF, tyName, gIsT, wIsT, wCall, Rt.d, Cn.d, onNew, wCallF, wCallN, wCallNF, nlR, wgName, wgNil, wgCons, wgTup, wSeq, wSeqT, wSigns, wRng1, wRng2, wRng3, wRev, wEnum, wZip, wLc, wtYes, wsNil, wsBrk, wsCnt, wsExpr, wsRet, wsRetF, wsRetOwn, wsRetN, wIfS, wsSet, wsSetF, wsAsg, wsPar, wsAug, gApp, gExt, gPop0, gRev, wMut, wsSetIx, wFor, wsRaise, wSeqS, wFrz, wsCallM, wsPopAdd, endsOf, endM, endsM, startM, startE, wipeE, smallI, CPow, Br_true, Br_false, Br_not, rngD_eq, dC, dP, dI, ex_atI_map, atI0, atI1, atI2, kit1, kit2, kit3, kit4, kit5, kit6, kit7, kit8, kit9, kit10, kit11, kit12, kit13, kit14, kit15, kit16, kit17, kit18, kit19, kit20, kit21, kit22, kit23, kit24, kit25, kit26, kit27, kit28, kit29, kit30, kit31, kit32, kit33, kit34, kit35, sizeLine_eq, true_and, and_true, exists_eq_left', Option.some.injEq, List.map_cons, List.map_nil, List.length_cons, List.length_nil, List.length_map, List.length_append, List.cons_append, List.nil_append, List.set_cons_zero, List.set_cons_succ, List.getElem?_cons_zero, List.getElem?_cons_succ, List.getElem?_nil, Nat.reduceSub, Nat.reduceAdd, Nat.zero_add, Nat.sub_self, List.replicate_succ, List.replicate_zero, Bool.false_bne, Bool.true_bne, Bool.false_xor, Bool.true_xor, Bool.not_true, Bool.not_false, Bool.not_not, beq_self_eq_true, Bool.and_true, Bool.true_and, nl, nls, decide_true, decide_false, exists_eq_left, Bool.false_eq_true, Option.some_inj, Int.reduceToNat, Int.reducePow, Int.reduceMul, Int.reduceSub, Int.reduceAdd, Int.reduceNeg, Nat.reducePow, Nat.reduceLeDiff, Int.reduceLE, Int.reduceLT, Int.reduceAbs, Int.natAbs_neg, Nat.reduceLT, divW_eq, mulW_eq, Bool.or_true, Bool.true_or, cut_map, ← List.map_append, ← List.map_reverse, castN, eq_self, Int.reduceEq, deqC, deq_self, rep_map, nls_dP, wsAugIx, tx_cps, tx_len, tx_app, tx_one, tx_nil, tx_cut, tx_signs, tx_rep, lit_empty, tx_inj, wJoin, gJoin, wmCall, wmOpL, wmOpR, wmIxR, wmTup2, wsSetM, wsAppM, wForM, gSum, gAny, gAll, gLtD, gInT, gSorted, gAddT, wThaw, gMaxL, wsRetT, wsRetTF, wmApp, mutW, wNIf, wNIfM, wsNo, nestQ, wNest, isL, wsSetV]
    refine ⟨by omega, c ++ d, rfl, by simp only [List.length_append]; omega, ?_⟩
    walk_at "s"
    refine ⟨by omega, d ++ c, rfl, by simp only [List.length_append]; omega, ?_⟩
    walk_at "s"
    refine ⟨⟨nbC o1, nbC o2⟩, ?_⟩
    refine Br.f h ?_
    walk_at "s"
    exact q
  · simp only [W_law_shared_3, wVar, wOwn, wC, wOp, onBl, wtOn, wChain, trD, wtVal, wtNot, wAnd, wOr, wAndV, wOrV, wNotV, wIf, wNil, wCons, wTup, wLst, wUn, wNew, gAdd, gInt, gInt0, gMul, gCatF, gRepF, wOpF, gEq, gCmp, gInS, gIsN, isN, gIsB, gIdx, woNone, woSome, gSl, wSl, gSlF, wSlF, wB, wBF, gLen, gInt1, gInt2, gToInt, gListF, tyName, gIsT, wIsT, wCall, Rt.d, Cn.d, onNew, wCallF, wCallN, wCallNF, nlR, wgName, wgNil, wgCons, wgTup, wSeq, wSeqT, wSigns, wRng1, wRng2, wRng3, wRev, wEnum, wZip, wLc, wtYes, wsNil, wsBrk, wsCnt, wsExpr, wsRet, wsRetF, wsRetOwn, wsRetN, wIfS, wsSet, wsSetF, wsAsg, wsPar, wsAug, gApp, gExt, gPop0, gRev, wMut, wsSetIx, wFor, wsRaise, wSeqS, wFrz, wsCallM, wsPopAdd, endsOf, endM, endsM, startM, startE, wipeE, smallI, CPow, Br_true, Br_false, Br_not, rngD_eq, dC, dP, dI, ex_atI_map, atI0, atI1, atI2, kit1, kit2, kit3, kit4, kit5, kit6, kit7, kit8, kit9, kit10, kit11, kit12, kit13, kit14, kit15, kit16, kit17, kit18, kit19, kit20, kit21, kit22, kit23, kit24, kit25, kit26, kit27, kit28, kit29, kit30, kit31, kit32, kit33, kit34, kit35, sizeLine_eq, true_and, and_true, exists_eq_left', Option.some.injEq, List.map_cons, List.map_nil, List.length_cons, List.length_nil, List.length_map, List.length_append, List.cons_append, List.nil_append, List.set_cons_zero, List.set_cons_succ, List.getElem?_cons_zero, List.getElem?_cons_succ, List.getElem?_nil, Nat.reduceSub, Nat.reduceAdd, Nat.zero_add, Nat.sub_self, List.replicate_succ, List.replicate_zero, Bool.false_bne, Bool.true_bne, Bool.false_xor, Bool.true_xor, Bool.not_true, Bool.not_false, Bool.not_not, beq_self_eq_true, Bool.and_true, Bool.true_and, nl, nls, decide_true, decide_false, exists_eq_left, Bool.false_eq_true, Option.some_inj, Int.reduceToNat, Int.reducePow, Int.reduceMul, Int.reduceSub, Int.reduceAdd, Int.reduceNeg, Nat.reducePow, Nat.reduceLeDiff, Int.reduceLE, Int.reduceLT, Int.reduceAbs, Int.natAbs_neg, Nat.reduceLT, divW_eq, mulW_eq, Bool.or_true, Bool.true_or, cut_map, ← List.map_append, ← List.map_reverse, castN, eq_self, Int.reduceEq, deqC, deq_self, rep_map, nls_dP, wsAugIx, tx_cps, tx_len, tx_app, tx_one, tx_nil, tx_cut, tx_signs, tx_rep, lit_empty, tx_inj, wJoin, gJoin, wmCall, wmOpL, wmOpR, wmIxR, wmTup2, wsSetM, wsAppM, wForM, gSum, gAny, gAll, gLtD, gInT, gSorted, gAddT, wThaw, gMaxL, wsRetT, wsRetTF, wmApp, mutW, wNIf, wNIfM, wsNo, nestQ, wNest, isL, wsSetV]
    refine ⟨by omega, c ++ d, rfl, by simp only [List.length_append]; omega, ?_⟩
    walk_at "s"
    refine ⟨by omega, d ++ c, rfl, by simp only [List.length_append]; omega, ?_⟩
    walk_at "s"
    refine ⟨⟨nbC o1, nbC o2⟩, ?_⟩
    refine Br.t h.com ?_
    exact shared_4 hc hd h q
theorem pwok {c g : List Pc} {t : Nat} (hc : Lim c) (r : RtA c g t) : PwOk g (t : Nat) := by
  have big : (2000 : Nat) < 2 ^ 200 := by decide
  have h1 := hc.1
  refine ⟨by have := r.l; omega, ?_, fun z => ?_, fun b b1 b2 b3 => ?_, r.r.exg hc.2.2⟩
  · rw [Int.natAbs_natCast]
    exact r.r.times hc.2.2 (by omega)
  · rw [red_nf r.r.red] at z
    exact absurd z r.r.ne
  · have := r.r.lim b b1 b2 b3
    rw [Int.natAbs_natCast]
    omega
theorem PwOk.zero {g : List Pc} {t : Int} (h : PwOk g t) : PwOk g 0 :=
  ⟨h.l, by decide, fun _ => by decide, fun b _ _ _ => by simp, h.e⟩
theorem PwOk.nil : PwOk [] 0 := ⟨by simp, by decide, fun _ => by decide, fun b _ _ _ => by simp, fun n => by show (0 : Int).natAbs < _; decide⟩
theorem zpw_zero (g : List Pc) : zpw 0 g = [] := rfl
theorem zpw_nat (g : List Pc) (t : Nat) : zpw (t : Int) g = pw t g := by
  unfold zpw
  rw [if_neg (by omega), Int.toNat_natCast]
theorem zpw_neg (g : List Pc) {t : Nat} (h : 1 ≤ t) : zpw (-(t : Int)) g = pw t (con g) := by
  unfold zpw
  rw [if_pos (by omega), Int.neg_neg, Int.toNat_natCast]
theorem com_fall {c d : List Pc} (h : nf c = []) : nf (c ++ d) = nf (d ++ c) := by
  rw [nf_app2 c d, nf_app2 d c, h]
  simp
theorem pure_law_shared (ds : List D) (x : XS) (R : Rt → Prop) (h : SP_law_shared ds x R) : W_law_shared (endsOf R x) (startE 6 ds) := by
  obtain ⟨c, d, rfl, hc, hd, q⟩ := h
  have nbb : nb 20 (.lst [.lst (c.map dP), .lst (d.map dP)]) = true := by
    show ([.lst (c.map dP), .lst (d.map dP)] : List D).all (nb 19) = true
    simp only [List.all_cons, List.all_nil, Bool.and_true, Bool.and_eq_true]
    exact ⟨nb_dC (n := 16) hc.2.1, nb_dC (n := 16) hd.2.1⟩
  have sh := fun s2 => shared_3 (x := x) (s2 := s2) hc hd q
  have go : ∀ g a b, Shr c d g a b → W_law_shared_2 (endsOf R x) [.fz (dC c), .fz (dC d), .fz (.lst [dC c, dC d]), .fz (.tup [dC g, .int a, .int b]), .un, .un] := fun g a b h => by
    simp only [W_law_shared_2, wVar, wOwn, wC, wOp, onBl, wtOn, wChain, trD, wtVal, wtNot, wAnd, wOr, wAndV, wOrV, wNotV, wIf, wNil, wCons, wTup, wLst, wUn, wNew, gAdd, gInt, gInt0, gMul, gCatF, gRepF, wOpF, gEq, gCmp, gInS, gIsN, isN, gIsB, gIdx, woNone, woSome, gSl, wSl, gSlF, wSlF, wB, wBF, gLen, gInt1, gInt2, gToInt, gListF, tyName, gIsT, wIsT, wCall, Rt.d, Cn.d, onNew, wCallF, wCallN, wCallNF, nlR, wgName, wgNil, wgCons, wgTup, wSeq, wSeqT, wSigns, wRng1, wRng2, wRng3, wRev, wEnum, wZip, wLc, wtYes, wsNil, wsBrk, wsCnt, wsExpr, wsRet, wsRetF, wsRetOwn, wsRetN, wIfS, wsSet, wsSetF, wsAsg, wsPar, wsAug, gApp, gExt, gPop0, gRev, wMut, wsSetIx, wFor, wsRaise, wSeqS, wFrz, wsCallM, wsPopAdd, endsOf, endM, endsM, startM, startE, wipeE, smallI, CPow, Br_true, Br_false, Br_not, rngD_eq, dC, dP, dI, ex_atI_map, atI0, atI1, atI2, kit1, kit2, kit3, kit4, kit5, kit6, kit7, kit8, kit9, kit10, kit11, kit12, kit13, kit14, kit15, kit16, kit17, kit18, kit19, kit20, kit21, kit22, kit23, kit24, kit25, kit26, kit27, kit28, kit29, kit30, kit31, kit32, kit33, kit34, kit35, sizeLine_eq, true_and, and_true, exists_eq_left', Option.some.injEq, List.map_cons, List.map_nil, List.length_cons, List.length_nil, List.length_map, List.length_append, List.cons_append, List.nil_append, List.set_cons_zero, List.set_cons_succ, List.getElem?_cons_zero, List.getElem?_cons_succ, List.getElem?_nil, Nat.reduceSub, Nat.reduceAdd, Nat.zero_add, Nat.sub_self, List.replicate_succ, List.replicate_zero, Bool.false_bne, Bool.true_bne, Bool.false_xor, Bool.true_xor, Bool.not_true, Bool.not_false, Bool.not_not, beq_self_eq_true, Bool.and_true, Bool.true_and, nl, nls, decide_true, decide_false, exists_eq_left, Bool.false_eq_true, Option.some_inj, Int.reduceToNat, Int.reducePow, Int.reduceMul, Int.reduceSub, Int.reduceAdd, Int.reduceNeg, Nat.reducePow, Nat.reduceLeDiff, Int.reduceLE, Int.reduceLT, Int.reduceAbs, Int.natAbs_neg, Nat.reduceLT, divW_eq, mulW_eq, Bool.or_true, Bool.true_or, cut_map, ← List.map_append, ← List.map_reverse, castN, eq_self, Int.reduceEq, deqC, deq_self, rep_map, nls_dP, wsAugIx, tx_cps, tx_len, tx_app, tx_one, tx_nil, tx_cut, tx_signs, tx_rep, lit_empty, tx_inj, wJoin, gJoin, wmCall, wmOpL, wmOpR, wmIxR, wmTup2, wsSetM, wsAppM, wForM, gSum, gAny, gAll, gLtD, gInT, gSorted, gAddT, wThaw, gMaxL, wsRetT, wsRetTF, wmApp, mutW, wNIf, wNIfM, wsNo, nestQ, wNest, isL, wsSetV]
    refine ⟨⟨nbb, nbb⟩, ?_⟩
    exact (sh _).2 g a b h
  have no : nf (c ++ d) ≠ nf (d ++ c) → W_law_shared_2 (endsOf R x) [.fz (dC c), .fz (dC d), .fz (.lst [dC c, dC d]), .fz .non, .un, .un] := fun h => by
    simp only [W_law_shared_2, wVar, wOwn, wC, wOp, onBl, wtOn, wChain, trD, wtVal, wtNot, wAnd, wOr, wAndV, wOrV, wNotV, wIf, wNil, wCons, wTup, wLst, wUn, wNew, gAdd, gInt, gInt0, gMul, gCatF, gRepF, wOpF, gEq, gCmp, gInS, gIsN, isN, gIsB, gIdx, woNone, woSome, gSl, wSl, gSlF, wSlF, wB, wBF, gLen, gInt1, gInt2, gToInt, gListF, tyName, gIsT, wIsT, wCall, Rt.d, Cn.d, onNew, wCallF, wCallN, wCallNF, nlR, wgName, wgNil, wgCons, wgTup, wSeq, wSeqT, wSigns, wRng1, wRng2, wRng3, wRev, wEnum, wZip, wLc, wtYes, wsNil, wsBrk, wsCnt, wsExpr, wsRet, wsRetF, wsRetOwn, wsRetN, wIfS, wsSet, wsSetF, wsAsg, wsPar, wsAug, gApp, gExt, gPop0, gRev, wMut, wsSetIx, wFor, wsRaise, wSeqS, wFrz, wsCallM, wsPopAdd, endsOf, endM, endsM, startM, startE, wipeE, smallI, CPow, Br_true, Br_false, Br_not, rngD_eq, dC, dP, dI, ex_atI_map, atI0, atI1, atI2, kit1, kit2, kit3, kit4, kit5, kit6, kit7, kit8, kit9, kit10, kit11, kit12, kit13, kit14, kit15, kit16, kit17, kit18, kit19, kit20, kit21, kit22, kit23, kit24, kit25, kit26, kit27, kit28, kit29, kit30, kit31, kit32, kit33, kit34, kit35, sizeLine_eq, true_and, and_true, exists_eq_left', Option.some.injEq, List.map_cons, List.map_nil, List.length_cons, List.length_nil, List.length_map, List.length_append, List.cons_append, List.nil_append, List.set_cons_zero, List.set_cons_succ, List.getElem?_cons_zero, List.getElem?_cons_succ, List.getElem?_nil, Nat.reduceSub, Nat.reduceAdd, Nat.zero_add, Nat.sub_self, List.replicate_succ, List.replicate_zero, Bool.false_bne, Bool.true_bne, Bool.false_xor, Bool.true_xor, Bool.not_true, Bool.not_false, Bool.not_not, beq_self_eq_true, Bool.and_true, Bool.true_and, nl, nls, decide_true, decide_false, exists_eq_left, Bool.false_eq_true, Option.some_inj, Int.reduceToNat, Int.reducePow, Int.reduceMul, Int.reduceSub, Int.reduceAdd, Int.reduceNeg, Nat.reducePow, Nat.reduceLeDiff, Int.reduceLE, Int.reduceLT, Int.reduceAbs, Int.natAbs_neg, Nat.reduceLT, divW_eq, mulW_eq, Bool.or_true, Bool.true_or, cut_map, ← List.map_append, ← List.map_reverse, castN, eq_self, Int.reduceEq, deqC, deq_self, rep_map, nls_dP, wsAugIx, tx_cps, tx_len, tx_app, tx_one, tx_nil, tx_cut, tx_signs, tx_rep, lit_empty, tx_inj, wJoin, gJoin, wmCall, wmOpL, wmOpR, wmIxR, wmTup2, wsSetM, wsAppM, wForM, gSum, gAny, gAll, gLtD, gInT, gSorted, gAddT, wThaw, gMaxL, wsRetT, wsRetTF, wmApp, mutW, wNIf, wNIfM, wsNo, nestQ, wNest, isL, wsSetV]
    refine ⟨⟨nbb, nbb⟩, ?_⟩
    exact (sh _).1 h
  simp only [W_law_shared, wVar, wOwn, wC, wOp, onBl, wtOn, wChain, trD, wtVal, wtNot, wAnd, wOr, wAndV, wOrV, wNotV, wIf, wNil, wCons, wTup, wLst, wUn, wNew, gAdd, gInt, gInt0, gMul, gCatF, gRepF, wOpF, gEq, gCmp, gInS, gIsN, isN, gIsB, gIdx, woNone, woSome, gSl, wSl, gSlF, wSlF, wB, wBF, gLen, gInt1, gInt2, gToInt, gListF, tyName, gIsT, wIsT, wCall, Rt.d, Cn.d, onNew, wCallF, wCallN, wCallNF, nlR, wgName, wgNil, wgCons, wgTup, wSeq, wSeqT, wSigns, wRng1, wRng2, wRng3, wRev, wEnum, wZip, wLc, wtYes, wsNil, wsBrk, wsCnt, wsExpr, wsRet, wsRetF, wsRetOwn, wsRetN, wIfS, wsSet, wsSetF, wsAsg, wsPar, wsAug, gApp, gExt, gPop0, gRev, wMut, wsSetIx, wFor, wsRaise, wSeqS, wFrz, wsCallM, wsPopAdd, endsOf, endM, endsM, startM, startE, wipeE, smallI, CPow, Br_true, Br_false, Br_not, rngD_eq, dC, dP, dI, ex_atI_map, atI0, atI1, atI2, kit1, kit2, kit3, kit4, kit5, kit6, kit7, kit8, kit9, kit10, kit11, kit12, kit13, kit14, kit15, kit16, kit17, kit18, kit19, kit20, kit21, kit22, kit23, kit24, kit25, kit26, kit27, kit28, kit29, kit30, kit31, kit32, kit33, kit34, kit35, sizeLine_eq, true_and, and_true, exists_eq_left', Option.some.injEq, List.map_cons, List.map_nil, List.length_cons, List.length_nil, List.length_map, List.length_append, List.cons_append, List.nil_append, List.set_cons_zero, List.set_cons_succ, List.getElem?_cons_zero, List.getElem?_cons_succ, List.getElem?_nil, Nat.reduceSub, Nat.reduceAdd, Nat.zero_add, Nat.sub_self, List.replicate_succ, List.replicate_zero, Bool.false_bne, Bool.true_bne, Bool.false_xor, Bool.true_xor, Bool.not_true, Bool.not_false, Bool.not_not, beq_self_eq_true, Bool.and_true, Bool.true_and, nl, nls, decide_true, decide_false, exists_eq_left, Bool.false_eq_true, Option.some_inj, Int.reduceToNat, Int.reducePow, Int.reduceMul, Int.reduceSub, Int.reduceAdd, Int.reduceNeg, Nat.reducePow, Nat.reduceLeDiff, Int.reduceLE, Int.reduceLT, Int.reduceAbs, Int.natAbs_neg, Nat.reduceLT, divW_eq, mulW_eq, Bool.or_true, Bool.true_or, cut_map, ← List.map_append, ← List.map_reverse, castN, eq_self, Int.reduceEq, deqC, deq_self, rep_map, nls_dP, wsAugIx, tx_cps, tx_len, tx_app, tx_one, tx_nil, tx_cut, tx_signs, tx_rep, lit_empty, tx_inj, wJoin, gJoin, wmCall, wmOpL, wmOpR, wmIxR, wmTup2, wsSetM, wsAppM, wForM, gSum, gAny, gAll, gLtD, gInT, gSorted, gAddT, wThaw, gMaxL, wsRetT, wsRetTF, wmApp, mutW, wNIf, wNIfM, wsNo, nestQ, wNest, isL, wsSetV]
  refine ⟨c, d, rfl, hc, hd, fun c0 d0 => ?_, fun k t c0 d0 r => ?_, fun g s c0 d0 r => ?_, fun g s k t c0 d0 r1 r2 => ⟨fun e => ?_, fun e => ?_, fun e1 e2 => ?_⟩⟩
  · exact go [] 0 0 ⟨com_fall c0, trivial, (fun _ h => by cases h), .inl ⟨c0, rfl⟩, by omega, .inl ⟨d0, rfl⟩, fun _ _ => rfl, fun _ => by omega, .nil, .nil, c0.symm, d0.symm⟩
  · have p := pwok hd r
    exact go k 0 t ⟨com_fall c0, r.r.red, r.o, .inl ⟨c0, rfl⟩, by omega, .inr ⟨d0, r.r.oft⟩, fun _ z => absurd z d0, fun _ => by omega, p.zero, p, c0.symm, by rw [zpw_nat]; exact r.r.pow⟩
  · have p := pwok hc r
    exact go g s 0 ⟨(com_fall d0).symm, r.r.red, r.o, .inr ⟨c0, r.r.oft⟩, by omega, .inl ⟨d0, rfl⟩, fun z _ => absurd z c0, fun z => absurd z c0, p, p.zero, by rw [zpw_nat]; exact r.r.pow, d0.symm⟩
  · have p1 := pwok hc r1
    have p2 := pwok hd r2
    have cm := root_com r1.x r2.x (.inl e)
    subst e
    exact go k s t ⟨cm, r1.r.red, r1.o, .inr ⟨c0, r1.r.oft⟩, by omega, .inr ⟨d0, r2.r.oft⟩, fun z _ => absurd z c0, fun z => absurd z c0, p1, p2, by rw [zpw_nat]; exact r1.r.pow, by rw [zpw_nat]; exact r2.r.pow⟩
  · have p1 := pwok hc r1
    have p2 := pwok hd r2
    have cm := root_com r1.x r2.x (.inr e)
    have eg : con k = g := by rw [e, con_con]
    have p3 : PwOk g (-(t : Nat) : Int) := ⟨p1.l, by rw [Int.natAbs_neg]; exact p2.b, fun z => by rw [red_nf r1.r.red] at z; exact absurd z r1.r.ne, by rw [Int.natAbs_neg, ← eg]; exact con_cyc_lim p2.f, p1.e⟩
    refine go g s (-(t : Nat)) ⟨cm, r1.r.red, r1.o, .inr ⟨c0, r1.r.oft⟩, by omega, .inr ⟨d0, ?_⟩, fun z _ => absurd z c0, fun z => absurd z c0, p1, p3, by rw [zpw_nat]; exact r1.r.pow, by rw [zpw_neg g r2.r.pos, ← e]; exact r2.r.pow⟩
    rw [Int.natAbs_neg, Int.natAbs_natCast]
    exact r2.r.oft
  · exact no fun z => (com_root r1.x r2.x r1.r.ne r1.r.red r1.r.own z).elim e1 e2
end NL

namespace NL
open PySem PySem.Spec L2
open PyProof.Rows hiding St
local macro_rules | `(tactic| walk_at "s") => `(tactic| try simp only [wVar, wOwn, wC, wOp, onBl, wtOn, wChain, trD, wtVal, wtNot, wAnd, wOr, wAndV, wOrV, wNotV, wIf, wNil, wCons, wTup, wLst, wUn, wNew, gAdd, gInt, gInt0, gMul, gCatF, gRepF, wOpF, gEq, gCmp, gInS, gIsN, isN, gIsB, gIdx, woNone, woSome, gSl, wSl, gSlF, wSlF, wB, wBF, gLen, gInt1, gInt2, gToInt, gListF, tyName, gIsT, wIsT, wCall, Rt.d, Cn.d, onNew, wCallF, wCallN, wCallNF, nlR, wgName, wgNil, wgCons, wgTup, wSeq, wSeqT, wSigns, wRng1, wRng2, wRng3, wRev, wEnum, wZip, wLc, wtYes, wsNil, wsBrk, wsCnt, wsExpr, wsRet, wsRetF, wsRetOwn, wsRetN, wIfS, wsSet, wsSetF, wsAsg, wsPar, wsAug, gApp, gExt, gPop0, gRev, wMut, wsSetIx, wFor, wsRaise, wSeqS, wFrz, wsCallM, wsPopAdd, endsOf, endM, endsM, startM, startE, wipeE, smallI, CPow, Br_true, Br_false, Br_not, rngD_eq, dC, dP, dI, ex_atI_map, atI0, atI1, atI2, kit1, kit2, kit3, kit4, kit5, kit6, kit7, kit8, kit9, kit10, kit11, kit12, kit13, kit14, kit15, kit16, kit17, kit18, kit19, kit20, kit21, kit22, kit23, kit24, kit25, kit26, kit27, kit28, kit29, kit30, kit31, kit32, kit33, kit34, kit35, sizeLine_eq, true_and, and_true, exists_eq_left', Option.some.injEq, List.map_cons, List.map_nil, List.length_cons, List.length_nil, List.length_map, List.length_append, List.cons_append, List.nil_append, List.set_cons_zero, List.set_cons_succ, List.getElem?_cons_zero, List.getElem?_cons_succ, List.getElem?_nil, Nat.reduceSub, Nat.reduceAdd, Nat.zero_add, Nat.sub_self, List.replicate_succ, List.replicate_zero, Bool.false_bne, Bool.true_bne, Bool.false_xor, Bool.true_xor, Bool.not_true, Bool.not_false, Bool.not_not, beq_self_eq_true, Bool.and_true, Bool.true_and, nl, nls, decide_true, decide_false, exists_eq_left, Bool.false_eq_true, Option.some_inj, Int.reduceToNat, Int.reducePow, Int.reduceMul, Int.reduceSub, Int.reduceAdd, Int.reduceNeg, Nat.reducePow, Nat.reduceLeDiff, Int.reduceLE, Int.reduceLT, Int.reduceAbs, Int.natAbs_neg, Nat.reduceLT, divW_eq, mulW_eq, Bool.or_true, Bool.true_or, cut_map, ← List.map_append, ← List.map_reverse, castN, eq_self, Int.reduceEq, deqC, deq_self, rep_map, nls_dP, wsAugIx, tx_cps, tx_len, tx_app, tx_one, tx_nil, tx_cut, tx_signs, tx_rep, lit_empty, tx_inj, wJoin, gJoin, wmCall, wmOpL, wmOpR, wmIxR, wmTup2, wsSetM, wsAppM, wForM, gSum, gAny, gAll, gLtD, gInT, gSorted, gAddT, wThaw, gMaxL, wsRetT, wsRetTF, wmApp, mutW, wNIf, wNIfM, wsNo, nestQ, wNest, isL, wsSetV])
def W_law_9 : WS :=
  (wsRet (wAndV (wCallN SP_law_shared (wCons (wVar 7) (wCons (wOwn 8) wNil))) (wAndV (wCallN SP_law_shared (wCons (wOwn 8) (wCons (wVar 7) wNil))) (wCall SP_law_shared (wCons (wVar 7) (wCons (wVar 6) wNil))))))
def W_law_8 : WS :=
  (wSeqS (wIfS (wtOn (wOp (gEq false) (wVar 3) (wC (.int 3))))
  (wSeqS (wsSet 7 (wCall SP_law_cord (wCons (wCall SP_law_at (wCons (wVar 0) (wCons (wC (.int 4)) wNil))) (wCons (wVar 1) (wCons (wVar 2) (wCons (wC (.int 8)) wNil))))))
  (wsSetF 8 (wCallF SP_law_cord (wCons (wCall SP_law_at (wCons (wVar 0) (wCons (wC (.int 5)) wNil))) (wCons (wVar 1) (wCons (wVar 2) (wCons (wC (.int 8)) wNil)))))))
  (wIfS (wtOn (wOp (gEq false) (wOp (gInt (fun _ j => 0 < j) fun i j => i % j) (wCall SP_law_at (wCons (wVar 0) (wCons (wC (.int 6)) wNil))) (wC (.int 3))) (wC (.int 1))))
  (wSeqS (wsSet 9 (wOp (gInt CDivW fun i j => i / j) (wCall SP_law_at (wCons (wVar 0) (wCons (wC (.int 6)) wNil))) (wC (.int 3))))
  (wMut 8 gApp (wCons (wTup (wCons (wOp gIdx (wVar 1) (wOp (gInt (fun _ j => 0 < j) fun i j => i % j) (wVar 9) (wB gLen (wCons (wVar 1) wNil)))) (wCons (wOp (gInt0 fun i j => i - j) (wOp (gInt (fun _ j => 0 < j) fun i j => i % j) (wOp (gInt CDivW fun i j => i / j) (wVar 9) (wC (.int 26))) (wOp gAdd (wOp gMul (wC (.int 2)) (wVar 2)) (wC (.int 1)))) (wVar 2)) wNil))) wNil)))
  wsNil))
  W_law_9)
def W_law_6 : WS :=
  (wSeqS (wsSet 7 (wOp gAdd (wCall (SP_law_powered 3) (wCons (wVar 6) (wCons (wOp (gInt0 fun i j => i - j) (wOp (gInt (fun _ j => 0 < j) fun i j => i % j) (wCall SP_law_at (wCons (wVar 0) (wCons (wC (.int 4)) wNil))) (wC (.int 9))) (wC (.int 4))) wNil))) (wNew (wLst (wCons (wTup (wCons (wOp gIdx (wVar 1) (wC (.int 0))) (wCons (wC (.int 0)) wNil))) wNil)))))
  (wSeqS (wsSetF 8 (wCallF (SP_law_powered 3) (wCons (wVar 6) (wCons (wOp (gInt0 fun i j => i - j) (wOp (gInt (fun _ j => 0 < j) fun i j => i % j) (wCall SP_law_at (wCons (wVar 0) (wCons (wC (.int 5)) wNil))) (wC (.int 9))) (wC (.int 4))) wNil))))
  W_law_8))
def W_law : WS :=
  (wSeqS (wsSet 1 (wCall SP_law_nails (wCons (wCall SP_law_at (wCons (wVar 0) (wCons (wC (.int 0)) wNil))) wNil)))
  (wSeqS (wsSet 2 (wCall SP_law_wide (wCons (wOp (gInt CDivW fun i j => i / j) (wCall SP_law_at (wCons (wVar 0) (wCons (wC (.int 0)) wNil))) (wC (.int 7))) wNil)))
  (wSeqS (wsSet 3 (wOp (gInt (fun _ j => 0 < j) fun i j => i % j) (wOp (gInt CDivW fun i j => i / j) (wCall SP_law_at (wCons (wVar 0) (wCons (wC (.int 1)) wNil))) (wC (.int 2))) (wC (.int 4))))
  (wSeqS (wsSet 4 (wCall SP_law_cord (wCons (wCall SP_law_at (wCons (wVar 0) (wCons (wC (.int 2)) wNil))) (wCons (wVar 1) (wCons (wVar 2) (wCons (wC (.int 6)) wNil))))))
  (wSeqS (wsSet 5 (wCall SP_law_cord (wCons (wCall SP_law_at (wCons (wVar 0) (wCons (wC (.int 3)) wNil))) (wCons (wVar 1) (wCons (wVar 2) (wCons (wC (.int 4)) wNil))))))
  (wSeqS (wsSet 6 (wOp gAdd (wOp gAdd (wVar 5) (wVar 4)) (wCall SP_law_contrary (wCons (wVar 5) wNil))))
  W_law_6))))))
theorem k27_9 {R : Rt → Prop} {x : XS} {s0 s1 s2 s3 s4 s5 s9 : Sl} {b c d : List Pc} (hb : Lim b) (hc : Lim c) (hd : Lim d) (q : R (.val (.bl true))) : W_law_9 (endsOf R x) [s0, s1, s2, s3, s4, s5, .fz (dC b), .fz (dC c), .own false (.lst (d.map dP)), s9] := by
  simp only [W_law_9, wVar, wOwn, wC, wOp, onBl, wtOn, wChain, trD, wtVal, wtNot, wAnd, wOr, wAndV, wOrV, wNotV, wIf, wNil, wCons, wTup, wLst, wUn, wNew, gAdd, gInt, gInt0, gMul, gCatF, gRepF, wOpF, gEq, gCmp, gInS, gIsN, isN, gIsB, gIdx, woNone, woSome, gSl, wSl, gSlF, wSlF, wB, wBF, gLen, gInt1, gInt2, gToInt, gListF, tyName, gIsT, wIsT, wCall, Rt.d, Cn.d, onNew, wCallF, wCallN, wCallNF, nlR, wgName, wgNil, wgCons, wgTup, wSeq, wSeqT, wSigns, wRng1, wRng2, wRng3, wRev, wEnum, wZip, wLc, wtYes, wsNil, wsBrk, wsCnt, wsExpr, wsRet, wsRetF, wsRetOwn, wsRetN, wIfS, wsSet, wsSetF, wsAsg, wsPar, wsAug, gApp, gExt, gPop0, gRev, wMut, wsSetIx, wFor, wsRaise, wSeqS, wFrz, wsCallM, wsPopAdd, endsOf, endM, endsM, startM, startE, wipeE, smallI, CPow, Br_true, Br_false, Br_not, rngD_eq, dC, dP, dI, ex_atI_map, atI0, atI1, atI2, kit1, kit2, kit3, kit4, kit5, kit6, kit7, kit8, kit9, kit10, kit11, kit12, kit13, kit14, kit15, kit16, kit17, kit18, kit19, kit20, kit21, kit22, kit23, kit24, kit25, kit26, kit27, kit28, kit29, kit30, kit31, kit32, kit33, kit34, kit35, sizeLine_eq, true_and, and_true, exists_eq_left', Option.some.injEq, List.map_cons, List.map_nil, List.length_cons, List.length_nil, List.length_map, List.length_append, List.cons_append, List.nil_append, List.set_cons_zero, List.set_cons_succ, List.getElem?_cons_zero, List.getElem?_cons_succ, List.getElem?_nil, Nat.reduceSub, Nat.reduceAdd, Nat.zero_add, Nat.sub_self, List.replicate_succ, List.replicate_zero, Bool.false_bne, Bool.true_bne, Bool.false_xor, Bool.true_xor, Bool.not_true, Bool.not_false, Bool.not_not, beq_self_eq_true, Bool.and_true, Bool.true_and, nl, nls, decide_true, decide_false, exists_eq_left, Bool.false_eq_true, Option.some_inj, Int.reduceToNat, Int.reducePow, Int.reduceMul, Int.reduceSub, Int.reduceAdd, Int.reduceNeg, Nat.reducePow, Nat.reduceLeDiff, Int.reduceLE, Int.reduceLT, Int.reduceAbs, Int.natAbs_neg, Nat.reduceLT, divW_eq, mulW_eq, Bool.or_true, Bool.true_or, cut_map, ← List.map_append, ← List.map_reverse, castN, eq_self, Int.reduceEq, deqC, deq_self, rep_map, nls_dP, wsAugIx, tx_cps, tx_len, tx_app, tx_one, tx_nil, tx_cut, tx_signs, tx_rep, lit_empty, tx_inj, wJoin, gJoin, wmCall, wmOpL, wmOpR, wmIxR, wmTup2, wsSetM, wsAppM, wForM, gSum, gAny, gAll, gLtD, gInT, gSorted, gAddT, wThaw, gMaxL, wsRetT, wsRetTF, wmApp, mutW, wNIf, wNIfM, wsNo, nestQ, wNest, isL, wsSetV]
  refine ⟨c, d, rfl, hc, hd, rfl, ?_⟩
  walk_at "s"
  refine ⟨d, c, rfl, hd, hc, rfl, ?_⟩
  walk_at "s"
  exact ⟨c, b, rfl, hc, hb, q⟩
theorem cyc_ex : ∀ (n : Nat) (u : List Pc), u.length ≤ n → Red u → ∃ i, Cyc i ∧ Cj i u ∧ i.length ≤ u.length
  | 0, u, h, r => by
    have : u = [] := List.length_eq_zero_iff.mp (by omega)
    subst this
    exact ⟨[], ⟨trivial, fun h => by simp at h⟩, .of rfl, Nat.le_refl _⟩
  | n + 1, u, h, r => by
    by_cases cy : Cyc u
    · exact ⟨u, cy, .of rfl, Nat.le_refl _⟩
    rcases u with _ | ⟨p, tt⟩
    · exact absurd ⟨trivial, fun h => by simp at h⟩ cy
    rcases List.eq_nil_or_concat tt with z | ⟨m', l, z⟩
    · subst z
      exact absurd ⟨r, fun h => by simp at h⟩ cy
    rw [List.concat_eq_append] at z
    subst z
    have he : p.1 = l.1 := by
      apply Classical.byContradiction
      intro ne
      refine cy ⟨r, fun _ a b ha hb => ?_⟩
      simp only [List.head?_cons, Option.some.injEq] at ha
      rw [← List.cons_append, List.getLast?_append] at hb
      simp only [List.getLast?_singleton, Option.some_or, Option.some.injEq] at hb
      subst ha hb
      exact ne
    have el : nf (m' ++ [l, p]) = nf (m' ++ [(p.1, l.2 + p.2)]) := by
      obtain ⟨n1, t1⟩ := p
      obtain ⟨n2, t2⟩ := l
      simp only at he
      subst he
      rw [nf_app, nf_app]
      congr 1
      exact ps_ps (w := []) trivial
    have h6 := nf_len (m' ++ [((p.1, l.2 + p.2) : Pc)])
    simp only [List.length_append, List.length_singleton] at h6
    simp only [List.length_cons, List.length_append, List.length_nil] at h
    obtain ⟨i, i1, i2, i3⟩ := cyc_ex n (nf (m' ++ [l, p])) (by rw [el]; omega) (nf_red _)
    refine ⟨i, i1, i2.trans ((Cj.of (nf_nf _)).trans (Rot.cj ⟨m' ++ [l], [p], by simp, rfl⟩)), ?_⟩
    rw [el] at i3
    simp only [List.length_cons, List.length_append, List.length_nil]
    omega
theorem cyc_len {u b : List Pc} (hb : Cyc b) (h : Cj b u) : b.length ≤ u.length := by
  obtain ⟨i, i1, i2, i3⟩ := cyc_ex _ (nf u) (Nat.le_refl _) (nf_red u)
  have := (conj_rot i1 hb (i2.trans ((Cj.of (nf_nf u)).trans h.symm))).len
  have := nf_len u
  omega
structure Sm (c : List Pc) (N B : Nat) : Prop where
  l : c.length ≤ N
  o : OkC c
  e : ∀ n, (exN n c).natAbs ≤ B
theorem Sm.lim {c : List Pc} {N B : Nat} (h : Sm c N B) (hN : N ≤ 2000) (hB : B ≤ 10 ^ 40) : Lim c := ⟨by have := h.l; omega, h.o, fun n => by
  have := h.e n
  have : (10 : Nat) ^ 40 < 2 ^ 200 := by decide
  omega⟩
theorem Sm.app {c d : List Pc} {N B N' B' : Nat} (h : Sm c N B) (g : Sm d N' B') : Sm (c ++ d) (N + N') (B + B') := ⟨by rw [List.length_append]; exact Nat.add_le_add h.l g.l, h.o.app g.o, fun n => by
  rw [exN_app]
  have := h.e n
  have := g.e n
  omega⟩
theorem Sm.mono {c : List Pc} {N B N' B' : Nat} (h : Sm c N B) (a : N ≤ N') (b : B ≤ B') : Sm c N' B' := ⟨Nat.le_trans h.l a, h.o, fun n => Nat.le_trans (h.e n) b⟩
theorem sm_gd {w : Int} {c : List Pc} {N : Nat} (h : Gds w c) (hw : w ≤ 999999999999999999999999999999) (hl : c.length ≤ N) : Sm c N (N * 10 ^ 30) := ⟨hl, h.ok, fun n => by
  have h1 := exN_bd n (b := 10 ^ 30) (c := c) fun p hp => by
    have := (h p hp).2
    omega
  exact Nat.le_trans h1 (Nat.mul_le_mul_right _ hl)⟩
theorem sm_zpw {u : List Pc} {N B : Nat} {t : Int} (h : Sm u N B) (h1 : -4 ≤ t) (h2 : t ≤ 4) : Sm (nf (zpw t u)) (4 * N) (4 * B) := by
  have key : ∀ (v : List Pc) (k : Nat), k ≤ 4 → Sm v N B → Sm (nf (pw k v)) (4 * N) (4 * B) := fun v k hk hv => by
    refine ⟨?_, nf_ok (hv.o.sub fun p hp => pw_mem hp), fun n => ?_⟩
    · have := nf_len (pw k v)
      rw [pw_len] at this
      exact Nat.le_trans this (Nat.mul_le_mul hk hv.l)
    · rw [exN_nf, exN_pw, Int.natAbs_mul, Int.natAbs_natCast]
      exact Nat.mul_le_mul hk (hv.e n)
  unfold zpw
  split
  · exact key (con u) _ (by omega) ⟨by rw [con_len]; exact h.l, con_ok h.o, fun n => by rw [exN_con, Int.natAbs_neg]; exact h.e n⟩
  · exact key u _ (by omega) h
theorem sm_pwok {u : List Pc} {N B : Nat} {t : Int} (h : Sm u N B) (hN : N ≤ 100) (hB : B ≤ 10 ^ 40) (h1 : -4 ≤ t) (h2 : t ≤ 4) : PwOk u t := by
  have big : (10 : Nat) ^ 40 < 2 ^ 200 := by decide
  have big2 : (4 : Nat) < 2 ^ 200 := by decide
  have hl := h.l
  refine ⟨by omega, by omega, fun _ => by omega, fun b b1 b2 b3 => ?_, fun n => by have := h.e n; omega⟩
  have := cyc_len b1 b2
  have : b.length * t.natAbs ≤ 100 * 4 := Nat.mul_le_mul (by omega) (by omega)
  omega
theorem sm_one {y : Nat} {v : Int} {B : Nat} (hy : 97 ≤ y ∧ y ≤ 122) (hv : v.natAbs ≤ B) : Sm [(tx [y], v)] 1 B := ⟨by simp, fun p hp => by
  rw [List.mem_singleton] at hp
  subst hp
  exact tx_ok (l := [y]) fun c hc => by rw [List.mem_singleton] at hc; omega, fun n => by
  rw [exN_cons]
  have : exN n [] = 0 := rfl
  rw [this]
  split <;> omega⟩
theorem k27_8 {R : Rt → Prop} {x : XS} {s4 s5 : Sl} {ns : List Int} {w way : Int} {l : List Nat} {u c d : List Pc} (hn : ns.length ≤ 63) (l2 : l.length ≤ 26) (l1 : 1 ≤ l.length) (ll : Lt l) (w1 : 1 ≤ w) (w2 : w ≤ 999999999999999999999999999999) (lu : Lim u) (lc : Lim c) (sd : Sm d 56 (10 ^ 33)) (q : R (.val (.bl true))) :
    W_law_8 (endsOf R x) [.fz (.scr ns), .fz (.str (tx l)), .fz (.int w), .fz (.int way), s4, s5, .fz (dC u), .fz (dC c), .own false (.lst (d.map dP)), .un] := by
  simp only [W_law_8, wVar, wOwn, wC, wOp, onBl, wtOn, wChain, trD, wtVal, wtNot, wAnd, wOr, wAndV, wOrV, wNotV, wIf, wNil, wCons, wTup, wLst, wUn, wNew, gAdd, gInt, gInt0, gMul, gCatF, gRepF, wOpF, gEq, gCmp, gInS, gIsN, isN, gIsB, gIdx, woNone, woSome, gSl, wSl, gSlF, wSlF, wB, wBF, gLen, gInt1, gInt2, gToInt, gListF, tyName, gIsT, wIsT, wCall, Rt.d, Cn.d, onNew, wCallF, wCallN, wCallNF, nlR, wgName, wgNil, wgCons, wgTup, wSeq, wSeqT, wSigns, wRng1, wRng2, wRng3, wRev, wEnum, wZip, wLc, wtYes, wsNil, wsBrk, wsCnt, wsExpr, wsRet, wsRetF, wsRetOwn, wsRetN, wIfS, wsSet, wsSetF, wsAsg, wsPar, wsAug, gApp, gExt, gPop0, gRev, wMut, wsSetIx, wFor, wsRaise, wSeqS, wFrz, wsCallM, wsPopAdd, endsOf, endM, endsM, startM, startE, wipeE, smallI, CPow, Br_true, Br_false, Br_not, rngD_eq, dC, dP, dI, ex_atI_map, atI0, atI1, atI2, kit1, kit2, kit3, kit4, kit5, kit6, kit7, kit8, kit9, kit10, kit11, kit12, kit13, kit14, kit15, kit16, kit17, kit18, kit19, kit20, kit21, kit22, kit23, kit24, kit25, kit26, kit27, kit28, kit29, kit30, kit31, kit32, kit33, kit34, kit35, sizeLine_eq, true_and, and_true, exists_eq_left', Option.some.injEq, List.map_cons, List.map_nil, List.length_cons, List.length_nil, List.length_map, List.length_append, List.cons_append, List.nil_append, List.set_cons_zero, List.set_cons_succ, List.getElem?_cons_zero, List.getElem?_cons_succ, List.getElem?_nil, Nat.reduceSub, Nat.reduceAdd, Nat.zero_add, Nat.sub_self, List.replicate_succ, List.replicate_zero, Bool.false_bne, Bool.true_bne, Bool.false_xor, Bool.true_xor, Bool.not_true, Bool.not_false, Bool.not_not, beq_self_eq_true, Bool.and_true, Bool.true_and, nl, nls, decide_true, decide_false, exists_eq_left, Bool.false_eq_true, Option.some_inj, Int.reduceToNat, Int.reducePow, Int.reduceMul, Int.reduceSub, Int.reduceAdd, Int.reduceNeg, Nat.reducePow, Nat.reduceLeDiff, Int.reduceLE, Int.reduceLT, Int.reduceAbs, Int.natAbs_neg, Nat.reduceLT, divW_eq, mulW_eq, Bool.or_true, Bool.true_or, cut_map, ← List.map_append, ← List.map_reverse, castN, eq_self, Int.reduceEq, deqC, deq_self, rep_map, nls_dP, wsAugIx, tx_cps, tx_len, tx_app, tx_one, tx_nil, tx_cut, tx_signs, tx_rep, lit_empty, tx_inj, wJoin, gJoin, wmCall, wmOpL, wmOpR, wmIxR, wmTup2, wsSetM, wsAppM, wForM, gSum, gAny, gAll, gLtD, gInT, gSorted, gAddT, wThaw, gMaxL, wsRetT, wsRetTF, wmApp, mutW, wNIf, wNIfM, wsNo, nestQ, wNest, isL, wsSetV]
  refine Br.d (fun h => ?_) (fun h => ?_)
  · walk_at "s"
    refine ⟨ns, 4, rfl, by omega, ?_⟩
    walk_at "s"
    refine ⟨_, w, l, 8, rfl, l1, by omega, ll, w1, w2, by omega, fun a a1 a2 _ => ?_⟩
    walk_at "s"
    refine ⟨ns, 5, rfl, by omega, ?_⟩
    walk_at "s"
    refine ⟨_, w, l, 8, rfl, l1, by omega, ll, w1, w2, by omega, fun b b1 b2 _ => ?_⟩
    walk_at "s"
    exact k27_9 lu ((sm_gd a2 w2 a1).lim (by decide) (by decide)) ((sm_gd b2 w2 b1).lim (by decide) (by decide)) q
  · walk_at "s"
    refine ⟨ns, 6, rfl, by omega, ?_⟩
    walk_at "s"
    refine Br.d (fun h => ?_) (fun h => ?_)
    · walk_at "s"
      refine ⟨ns, 6, rfl, by omega, ?_⟩
      walk_at "s"
      obtain ⟨z, hz⟩ : ∃ z, ns.getD 6 0 / 3 = z := ⟨_, rfl⟩
      rw [hz]
      obtain ⟨y, hy0, my⟩ : ∃ y, atI l (z % (l.length : Int)) = some y ∧ y ∈ l := atI_in (Int.emod_nonneg _ (by omega)) (Int.emod_lt_of_pos _ (by omega))
      have hy := ll y my
      have s0 : 0 ≤ z / 26 % (2 * w + 1) := Int.emod_nonneg _ (by omega)
      have s1 : z / 26 % (2 * w + 1) < 2 * w + 1 := Int.emod_lt_of_pos _ (by omega)
      refine ⟨by omega, by omega, by omega, y, hy0, mulWn (a := 10) (b := 200) (by omega) (by omega) (by omega), by omega, by have := sd.l; omega, ?_⟩
      have s3 := sd.app (sm_one (v := z / 26 % (2 * w + 1) - w) (B := 10 ^ 30) hy (by omega))
      have key := k27_9 (x := x) (s0 := .fz (.scr ns)) (s1 := .fz (.str (tx l))) (s2 := .fz (.int w)) (s3 := .fz (.int way)) (s4 := s4) (s5 := s5) (s9 := .fz (.int z)) lu lc ((s3.mono (N' := 100) (B' := 10 ^ 34) (by decide) (by decide)).lim (by decide) (by decide)) q
      rw [List.map_append] at key
      exact key
    · walk_at "s"
      exact k27_9 lu lc (sd.lim (by decide) (by decide)) q
theorem pure_law (ds : List D) (x : XS) (R : Rt → Prop) (h : SP_law ds x R) : W_law (endsOf R x) (startE 10 ds) := by
  obtain ⟨ns, rfl, hn, q⟩ := h
  simp only [W_law, wVar, wOwn, wC, wOp, onBl, wtOn, wChain, trD, wtVal, wtNot, wAnd, wOr, wAndV, wOrV, wNotV, wIf, wNil, wCons, wTup, wLst, wUn, wNew, gAdd, gInt, gInt0, gMul, gCatF, gRepF, wOpF, gEq, gCmp, gInS, gIsN, isN, gIsB, gIdx, woNone, woSome, gSl, wSl, gSlF, wSlF, wB, wBF, gLen, gInt1, gInt2, gToInt, gListF, tyName, gIsT, wIsT, wCall, Rt.d, Cn.d, onNew, wCallF, wCallN, wCallNF, nlR, wgName, wgNil, wgCons, wgTup, wSeq, wSeqT, wSigns, wRng1, wRng2, wRng3, wRev, wEnum, wZip, wLc, wtYes, wsNil, wsBrk, wsCnt, wsExpr, wsRet, wsRetF, wsRetOwn, wsRetN, wIfS, wsSet, wsSetF, wsAsg, wsPar, wsAug, gApp, gExt, gPop0, gRev, wMut, wsSetIx, wFor, wsRaise, wSeqS, wFrz, wsCallM, wsPopAdd, endsOf, endM, endsM, startM, startE, wipeE, smallI, CPow, Br_true, Br_false, Br_not, rngD_eq, dC, dP, dI, ex_atI_map, atI0, atI1, atI2, kit1, kit2, kit3, kit4, kit5, kit6, kit7, kit8, kit9, kit10, kit11, kit12, kit13, kit14, kit15, kit16, kit17, kit18, kit19, kit20, kit21, kit22, kit23, kit24, kit25, kit26, kit27, kit28, kit29, kit30, kit31, kit32, kit33, kit34, kit35, sizeLine_eq, true_and, and_true, exists_eq_left', Option.some.injEq, List.map_cons, List.map_nil, List.length_cons, List.length_nil, List.length_map, List.length_append, List.cons_append, List.nil_append, List.set_cons_zero, List.set_cons_succ, List.getElem?_cons_zero, List.getElem?_cons_succ, List.getElem?_nil, Nat.reduceSub, Nat.reduceAdd, Nat.zero_add, Nat.sub_self, List.replicate_succ, List.replicate_zero, Bool.false_bne, Bool.true_bne, Bool.false_xor, Bool.true_xor, Bool.not_true, Bool.not_false, Bool.not_not, beq_self_eq_true, Bool.and_true, Bool.true_and, nl, nls, decide_true, decide_false, exists_eq_left, Bool.false_eq_true, Option.some_inj, Int.reduceToNat, Int.reducePow, Int.reduceMul, Int.reduceSub, Int.reduceAdd, Int.reduceNeg, Nat.reducePow, Nat.reduceLeDiff, Int.reduceLE, Int.reduceLT, Int.reduceAbs, Int.natAbs_neg, Nat.reduceLT, divW_eq, mulW_eq, Bool.or_true, Bool.true_or, cut_map, ← List.map_append, ← List.map_reverse, castN, eq_self, Int.reduceEq, deqC, deq_self, rep_map, nls_dP, wsAugIx, tx_cps, tx_len, tx_app, tx_one, tx_nil, tx_cut, tx_signs, tx_rep, lit_empty, tx_inj, wJoin, gJoin, wmCall, wmOpL, wmOpR, wmIxR, wmTup2, wsSetM, wsAppM, wForM, gSum, gAny, gAll, gLtD, gInT, gSorted, gAddT, wThaw, gMaxL, wsRetT, wsRetTF, wmApp, mutW, wNIf, wNIfM, wsNo, nestQ, wNest, isL, wsSetV]
  refine ⟨ns, 0, rfl, by omega, ?_⟩
  walk_at "s"
  refine ⟨_, rfl, fun l l1 l2 ll => ?_⟩
  walk_at "s"
  refine ⟨ns, 0, rfl, by omega, ?_⟩
  walk_at "s"
  refine ⟨_, rfl, fun w w1 w2 => ?_⟩
  walk_at "s"
  refine ⟨ns, 1, rfl, by omega, ?_⟩
  walk_at "s"
  refine ⟨ns, 2, rfl, by omega, ?_⟩
  walk_at "s"
  refine ⟨_, w, l, 6, rfl, l1, by omega, ll, w1, w2, by omega, fun a a1 a2 _ => ?_⟩
  walk_at "s"
  refine ⟨ns, 3, rfl, by omega, ?_⟩
  walk_at "s"
  refine ⟨_, w, l, 4, rfl, l1, by omega, ll, w1, w2, by omega, fun b b1 b2 _ => ?_⟩
  walk_at "s"
  have cl : (con b).length = b.length := con_len b
  refine ⟨by omega, b, rfl, by omega, ?_⟩
  walk_at "s"
  refine ⟨by omega, ?_⟩
  have su : Sm (b ++ a ++ con b) 14 (10 ^ 32) := (sm_gd ((b2.app a2).app (con_gd b2)) w2 (N := 14) (by simp only [List.length_append]; omega)).mono (by decide) (by decide)
  obtain ⟨u, hu⟩ : ∃ u, b ++ a ++ con b = u := ⟨_, rfl⟩
  rw [hu] at su ⊢
  have lu := su.lim (by decide) (by decide)
  have ul := su.l
  obtain ⟨y, hy0, my⟩ : ∃ y, atI l 0 = some y ∧ y ∈ l := atI_in (by omega) (by omega)
  have hy := ll y my
  simp only [W_law_6, wVar, wOwn, wC, wOp, onBl, wtOn, wChain, trD, wtVal, wtNot, wAnd, wOr, wAndV, wOrV, wNotV, wIf, wNil, wCons, wTup, wLst, wUn, wNew, gAdd, gInt, gInt0, gMul, gCatF, gRepF, wOpF, gEq, gCmp, gInS, gIsN, isN, gIsB, gIdx, woNone, woSome, gSl, wSl, gSlF, wSlF, wB, wBF, gLen, gInt1, gInt2, gToInt, gListF, tyName, gIsT, wIsT, wCall, Rt.d, Cn.d, onNew, wCallF, wCallN, wCallNF, nlR, wgName, wgNil, wgCons, wgTup, wSeq, wSeqT, wSigns, wRng1, wRng2, wRng3, wRev, wEnum, wZip, wLc, wtYes, wsNil, wsBrk, wsCnt, wsExpr, wsRet, wsRetF, wsRetOwn, wsRetN, wIfS, wsSet, wsSetF, wsAsg, wsPar, wsAug, gApp, gExt, gPop0, gRev, wMut, wsSetIx, wFor, wsRaise, wSeqS, wFrz, wsCallM, wsPopAdd, endsOf, endM, endsM, startM, startE, wipeE, smallI, CPow, Br_true, Br_false, Br_not, rngD_eq, dC, dP, dI, ex_atI_map, atI0, atI1, atI2, kit1, kit2, kit3, kit4, kit5, kit6, kit7, kit8, kit9, kit10, kit11, kit12, kit13, kit14, kit15, kit16, kit17, kit18, kit19, kit20, kit21, kit22, kit23, kit24, kit25, kit26, kit27, kit28, kit29, kit30, kit31, kit32, kit33, kit34, kit35, sizeLine_eq, true_and, and_true, exists_eq_left', Option.some.injEq, List.map_cons, List.map_nil, List.length_cons, List.length_nil, List.length_map, List.length_append, List.cons_append, List.nil_append, List.set_cons_zero, List.set_cons_succ, List.getElem?_cons_zero, List.getElem?_cons_succ, List.getElem?_nil, Nat.reduceSub, Nat.reduceAdd, Nat.zero_add, Nat.sub_self, List.replicate_succ, List.replicate_zero, Bool.false_bne, Bool.true_bne, Bool.false_xor, Bool.true_xor, Bool.not_true, Bool.not_false, Bool.not_not, beq_self_eq_true, Bool.and_true, Bool.true_and, nl, nls, decide_true, decide_false, exists_eq_left, Bool.false_eq_true, Option.some_inj, Int.reduceToNat, Int.reducePow, Int.reduceMul, Int.reduceSub, Int.reduceAdd, Int.reduceNeg, Nat.reducePow, Nat.reduceLeDiff, Int.reduceLE, Int.reduceLT, Int.reduceAbs, Int.natAbs_neg, Nat.reduceLT, divW_eq, mulW_eq, Bool.or_true, Bool.true_or, cut_map, ← List.map_append, ← List.map_reverse, castN, eq_self, Int.reduceEq, deqC, deq_self, rep_map, nls_dP, wsAugIx, tx_cps, tx_len, tx_app, tx_one, tx_nil, tx_cut, tx_signs, tx_rep, lit_empty, tx_inj, wJoin, gJoin, wmCall, wmOpL, wmOpR, wmIxR, wmTup2, wsSetM, wsAppM, wForM, gSum, gAny, gAll, gLtD, gInT, gSorted, gAddT, wThaw, gMaxL, wsRetT, wsRetTF, wmApp, mutW, wNIf, wNIfM, wsNo, nestQ, wNest, isL, wsSetV]
  refine ⟨ns, 4, rfl, by omega, ?_⟩
  walk_at "s"
  refine ask_pow (sm_pwok su (by decide) (by decide) (by omega) (by omega)) ?_
  have s1 := (sm_zpw su (t := ns.getD 4 0 % 9 - 4) (by omega) (by omega)).app (sm_one (v := 0) (B := 0) hy (by decide))
  have s2 := sm_zpw su (t := ns.getD 5 0 % 9 - 4) (by omega) (by omega)
  walk_at "s"
  refine ⟨by omega, y, hy0, by have := s2.l; have := s1.l; simp only [List.length_append, List.length_singleton] at this; omega, ns, 5, rfl, by omega, ?_⟩
  walk_at "s"
  refine ask_pow (sm_pwok su (by decide) (by decide) (by omega) (by omega)) ?_
  walk_at "s"
  have key := k27_8 (x := x) (s4 := .fz (.lst (a.map dP))) (s5 := .fz (.lst (b.map dP))) (way := ns.getD 1 0 / 2 % 4) hn (show l.length ≤ 26 from l2) l1 ll w1 w2 lu ((s1.mono (N' := 100) (B' := 10 ^ 33) (by decide) (by decide)).lim (by decide) (by decide)) (s2.mono (by decide) (by decide)) q
  have e1 : dC (nf (zpw (ns.getD 4 0 % 9 - 4) u) ++ [(tx [y], 0)]) = .lst ((nf (zpw (ns.getD 4 0 % 9 - 4) u)).map dP ++ [.tup [.str (tx [y]), .int 0]]) := by simp [dC, dP]
  rw [e1] at key
  exact key
end NL

namespace NL
open PySem PySem.Spec L2
open PyProof.Rows hiding St

def topS (i : Nat) : Stmt := PySem.Challenge.pw_nailhang_k27_whole_change_places.main.body.getD i (.Pass ⟨0, 0, 0, 0⟩)
abbrev s_law_nails : Stmt := topS 14
abbrev N_law_nails : List Str := ["_law_cell", "_law_some", "_law_many", "_law_at_here"]
theorem sc_law_nails : FnScope N_law_nails ["_law_cell"] (defScope s_law_nails) := ⟨rfl, rfl, rfl, by decide +kernel, rfl, by decide +kernel, by decide +kernel⟩
abbrev s_law_at : Stmt := topS 11
abbrev N_law_at : List Str := ["_law_script", "_law_k"]
theorem sc_law_at : FnScope N_law_at ["_law_script", "_law_k"] (defScope s_law_at) := ⟨rfl, rfl, rfl, by decide +kernel, rfl, by decide +kernel, by decide +kernel⟩
abbrev s_law_wide : Stmt := topS 15
abbrev N_law_wide : List Str := ["_law_cell"]
theorem sc_law_wide : FnScope N_law_wide ["_law_cell"] (defScope s_law_wide) := ⟨rfl, rfl, rfl, by decide +kernel, rfl, by decide +kernel, by decide +kernel⟩
abbrev s_law_digit : Stmt := topS 13
abbrev N_law_digit : List Str := ["_law_rest", "_law_m", "_law_digit_here"]
theorem sc_law_digit : FnScope N_law_digit ["_law_rest", "_law_m"] (defScope s_law_digit) := ⟨rfl, rfl, rfl, by decide +kernel, rfl, by decide +kernel, by decide +kernel⟩
abbrev s_law_mix : Stmt := topS 12
abbrev N_law_mix : List Str := ["_law_cell", "_law_k", "_law_value"]
theorem sc_law_mix : FnScope N_law_mix ["_law_cell", "_law_k"] (defScope s_law_mix) := ⟨rfl, rfl, rfl, by decide +kernel, rfl, by decide +kernel, by decide +kernel⟩
abbrev s_law_cord : Stmt := topS 16
abbrev N_law_cord : List Str := ["_law_cell", "_law_nails_here", "_law_wide_here", "_law_most", "_law_cord_here", "_law_k", "_law_rest", "_law_nail"]
theorem sc_law_cord : FnScope N_law_cord ["_law_cell", "_law_nails_here", "_law_wide_here", "_law_most"] (defScope s_law_cord) := ⟨rfl, rfl, rfl, by decide +kernel, rfl, by decide +kernel, by decide +kernel⟩
abbrev s_law_contrary : Stmt := topS 17
abbrev N_law_contrary : List Str := ["_law_cord_here", "_law_nail", "_law_turns"]
theorem sc_law_contrary : FnScope N_law_contrary ["_law_cord_here"] (defScope s_law_contrary) := ⟨rfl, rfl, rfl, by decide +kernel, rfl, by decide +kernel, by decide +kernel⟩
abbrev s_law_short : Stmt := topS 18
abbrev N_law_short : List Str := ["_law_cord_here", "_law_runs", "_law_nail", "_law_turns"]
theorem sc_law_short : FnScope N_law_short ["_law_cord_here"] (defScope s_law_short) := ⟨rfl, rfl, rfl, by decide +kernel, rfl, by decide +kernel, by decide +kernel⟩
abbrev s_law_powered : Stmt := topS 22
abbrev N_law_powered : List Str := ["_law_root", "_law_times", "_law_runs", "_law_outer"]
theorem sc_law_powered : FnScope N_law_powered ["_law_root", "_law_times"] (defScope s_law_powered) := ⟨rfl, rfl, rfl, by decide +kernel, rfl, by decide +kernel, by decide +kernel⟩
abbrev s_put_behind : Stmt := topS 1
abbrev N_put_behind : List Str := ["runs", "nail", "turns"]
theorem sc_put_behind : FnScope N_put_behind ["runs", "nail", "turns"] (defScope s_put_behind) := ⟨rfl, rfl, rfl, by decide +kernel, rfl, by decide +kernel, by decide +kernel⟩
abbrev s_short_form : Stmt := topS 2
abbrev N_short_form : List Str := ["cord", "runs", "nail", "turns"]
theorem sc_short_form : FnScope N_short_form ["cord"] (defScope s_short_form) := ⟨rfl, rfl, rfl, by decide +kernel, rfl, by decide +kernel, by decide +kernel⟩
abbrev s_loosened : Stmt := topS 5
abbrev N_loosened : List Str := ["cord", "inner", "outer", "low", "high", "first", "turns"]
theorem sc_loosened : FnScope N_loosened ["cord"] (defScope s_loosened) := ⟨rfl, rfl, rfl, by decide +kernel, rfl, by decide +kernel, by decide +kernel⟩
abbrev s_repeated : Stmt := topS 7
abbrev N_repeated : List Str := ["runs", "size"]
theorem sc_repeated : FnScope N_repeated ["runs"] (defScope s_repeated) := ⟨rfl, rfl, rfl, by decide +kernel, rfl, by decide +kernel, by decide +kernel⟩
abbrev s_contrary : Stmt := topS 3
abbrev N_contrary : List Str := ["cord", "nail", "turns"]
theorem sc_contrary : FnScope N_contrary ["cord"] (defScope s_contrary) := ⟨rfl, rfl, rfl, by decide +kernel, rfl, by decide +kernel, by decide +kernel⟩
abbrev s_root_of : Stmt := topS 8
abbrev N_root_of : List Str := ["cord", "outer", "inner", "times", "nail", "turns"]
theorem sc_root_of : FnScope N_root_of ["cord"] (defScope s_root_of) := ⟨rfl, rfl, rfl, by decide +kernel, rfl, by decide +kernel, by decide +kernel⟩
abbrev s_common_root : Stmt := topS 9
abbrev N_common_root : List Str := ["one", "other", "first", "second"]
theorem sc_common_root : FnScope N_common_root ["one", "other"] (defScope s_common_root) := ⟨rfl, rfl, rfl, by decide +kernel, rfl, by decide +kernel, by decide +kernel⟩
abbrev s_law_is_short : Stmt := topS 20
abbrev N_law_is_short : List Str := ["_law_found", "_law_piece"]
theorem sc_law_is_short : FnScope N_law_is_short ["_law_found"] (defScope s_law_is_short) := ⟨rfl, rfl, rfl, by decide +kernel, rfl, by decide +kernel, by decide +kernel⟩
abbrev s_law_whole : Stmt := topS 23
abbrev N_law_whole : List Str := ["_law_found"]
theorem sc_law_whole : FnScope N_law_whole ["_law_found"] (defScope s_law_whole) := ⟨rfl, rfl, rfl, by decide +kernel, rfl, by decide +kernel, by decide +kernel⟩
abbrev s_law_often : Stmt := topS 21
abbrev N_law_often : List Str := ["_law_cord_here", "_law_runs", "_law_best", "_law_times", "_law_size"]
theorem sc_law_often : FnScope N_law_often ["_law_cord_here"] (defScope s_law_often) := ⟨rfl, rfl, rfl, by decide +kernel, rfl, by decide +kernel, by decide +kernel⟩
abbrev s_law_shared : Stmt := topS 24
abbrev N_law_shared : List Str := ["_law_one", "_law_other", "_law_handed", "_law_found", "_law_first", "_law_second"]
theorem sc_law_shared : FnScope N_law_shared ["_law_one", "_law_other"] (defScope s_law_shared) := ⟨rfl, rfl, rfl, by decide +kernel, rfl, by decide +kernel, by decide +kernel⟩
abbrev s_law : Stmt := topS 25
abbrev N_law : List Str := ["_law_script", "_law_nails_here", "_law_wide_here", "_law_way", "_law_inner", "_law_outer", "_law_base", "_law_one", "_law_other", "_law_cell"]
theorem sc_law : FnScope N_law ["_law_script"] (defScope s_law) := ⟨rfl, rfl, rfl, by decide +kernel, rfl, by decide +kernel, by decide +kernel⟩
structure Txt (K : PySem.W.Frag) (mg : Str → Option Value) (fa : Nat → Addr) (fd : Nat → FuncData) (ca : Nat → Addr) : Prop where
  m_abs : mg "abs" = none
  m_bool : mg "bool" = none
  m_int : mg "int" = none
  m_isinstance : mg "isinstance" = none
  m_len : mg "len" = none
  m_list : mg "list" = none
  m_range : mg "range" = none
  m_reversed : mg "reversed" = none
  m_str : mg "str" = none
  m_tuple : mg "tuple" = none
  g_law_nails : mg "_law_nails" = some (.ref (fa 0))
  F_law_nails : Fun K "_law_nails" "_law_nails" s_law_nails (fa 0) (fd 0)
  b_law_nails : Binds K (fd 0) ["_law_cell"] []
  g_law_at : mg "_law_at" = some (.ref (fa 1))
  F_law_at : Fun K "_law_at" "_law_at" s_law_at (fa 1) (fd 1)
  b_law_at : Binds K (fd 1) ["_law_script", "_law_k"] []
  g_law_wide : mg "_law_wide" = some (.ref (fa 2))
  F_law_wide : Fun K "_law_wide" "_law_wide" s_law_wide (fa 2) (fd 2)
  b_law_wide : Binds K (fd 2) ["_law_cell"] []
  g_law_digit : mg "_law_digit" = some (.ref (fa 3))
  F_law_digit : Fun K "_law_digit" "_law_digit" s_law_digit (fa 3) (fd 3)
  b_law_digit : Binds K (fd 3) ["_law_rest", "_law_m"] []
  g_law_mix : mg "_law_mix" = some (.ref (fa 4))
  F_law_mix : Fun K "_law_mix" "_law_mix" s_law_mix (fa 4) (fd 4)
  b_law_mix : Binds K (fd 4) ["_law_cell", "_law_k"] []
  g_law_cord : mg "_law_cord" = some (.ref (fa 5))
  F_law_cord : Fun K "_law_cord" "_law_cord" s_law_cord (fa 5) (fd 5)
  b_law_cord : Binds K (fd 5) ["_law_cell", "_law_nails_here", "_law_wide_here", "_law_most"] []
  g_law_contrary : mg "_law_contrary" = some (.ref (fa 6))
  F_law_contrary : Fun K "_law_contrary" "_law_contrary" s_law_contrary (fa 6) (fd 6)
  b_law_contrary : Binds K (fd 6) ["_law_cord_here"] []
  g_law_short : mg "_law_short" = some (.ref (fa 7))
  F_law_short : Fun K "_law_short" "_law_short" s_law_short (fa 7) (fd 7)
  b_law_short : Binds K (fd 7) ["_law_cord_here"] []
  g_law_powered : mg "_law_powered" = some (.ref (fa 8))
  F_law_powered : Fun K "_law_powered" "_law_powered" s_law_powered (fa 8) (fd 8)
  b_law_powered : Binds K (fd 8) ["_law_root", "_law_times"] []
  g_put_behind : mg "put_behind" = some (.ref (fa 9))
  F_put_behind : Fun K "put_behind" "put_behind" s_put_behind (fa 9) (fd 9)
  b_put_behind : Binds K (fd 9) ["runs", "nail", "turns"] []
  g_short_form : mg "short_form" = some (.ref (fa 10))
  F_short_form : Fun K "short_form" "short_form" s_short_form (fa 10) (fd 10)
  b_short_form : Binds K (fd 10) ["cord"] []
  g_loosened : mg "loosened" = some (.ref (fa 11))
  F_loosened : Fun K "loosened" "loosened" s_loosened (fa 11) (fd 11)
  b_loosened : Binds K (fd 11) ["cord"] []
  g_repeated : mg "repeated" = some (.ref (fa 12))
  F_repeated : Fun K "repeated" "repeated" s_repeated (fa 12) (fd 12)
  b_repeated : Binds K (fd 12) ["runs"] []
  g_contrary : mg "contrary" = some (.ref (fa 13))
  F_contrary : Fun K "contrary" "contrary" s_contrary (fa 13) (fd 13)
  b_contrary : Binds K (fd 13) ["cord"] []
  g_root_of : mg "root_of" = some (.ref (fa 14))
  F_root_of : Fun K "root_of" "root_of" s_root_of (fa 14) (fd 14)
  b_root_of : Binds K (fd 14) ["cord"] []
  g_common_root : mg "common_root" = some (.ref (fa 15))
  F_common_root : Fun K "common_root" "common_root" s_common_root (fa 15) (fd 15)
  b_common_root : Binds K (fd 15) ["one", "other"] []
  g_law_is_short : mg "_law_is_short" = some (.ref (fa 16))
  F_law_is_short : Fun K "_law_is_short" "_law_is_short" s_law_is_short (fa 16) (fd 16)
  b_law_is_short : Binds K (fd 16) ["_law_found"] []
  g_law_whole : mg "_law_whole" = some (.ref (fa 17))
  F_law_whole : Fun K "_law_whole" "_law_whole" s_law_whole (fa 17) (fd 17)
  b_law_whole : Binds K (fd 17) ["_law_found"] []
  g_law_often : mg "_law_often" = some (.ref (fa 18))
  F_law_often : Fun K "_law_often" "_law_often" s_law_often (fa 18) (fd 18)
  b_law_often : Binds K (fd 18) ["_law_cord_here"] []
  g_law_shared : mg "_law_shared" = some (.ref (fa 19))
  F_law_shared : Fun K "_law_shared" "_law_shared" s_law_shared (fa 19) (fd 19)
  b_law_shared : Binds K (fd 19) ["_law_one", "_law_other"] []
  g_law : mg "law" = some (.ref (fa 20))
  F_law : Fun K "law" "law" s_law (fa 20) (fd 20)
  b_law : Binds K (fd 20) ["_law_script"] []
section
variable {P : Program} {w : World} {K : PySem.W.Frag} {mg : Str → Option Value} {base : Heap} {fa : Nat → Addr} {fd : Nat → FuncData} {ca : Nat → Addr}
theorem ok_law_nails (T : Txt K mg fa fd ca) : FnOk P w K mg base (L2.CX P w) 1 (fa 0) (fd 0) ["_law_cell"] (@spOf ⟨K⟩ mg SP_law_nails) := by
  letI : KC := ⟨K⟩
  have nd := sc_law_nails.nd
  refine fn_ok T.F_law_nails sc_law_nails len_law_nails (fun cdv A outer s H E hr xk => ⟨W_law_nails, ?_, pure_law_nails⟩)
  exact (sds_cons (sd_set 1 nd ed_str)
  (sds_cons (sd_set 2 nd (ed_ix (bd (ed_new (df_lst (ad_cons ed_int (ad_cons ed_int (ad_cons ed_int (ad_cons ed_int (ad_cons ed_int (ad_cons ed_int ad_nil))))))))) (bd (ed_op dMod (bd (ed_var 0)) (bd ed_int)))))
  (sds_cons (sd_set 3 nd (ed_op dMod (bd (ed_op dDiv (bd (ed_var 0)) (bd ed_int))) (bd ed_int)))
  (sds_one (sd_ret (ed_sl (bd (ed_op dAdd (bd (ed_var 1)) (bd (ed_var 1)))) (od_some (bd (ed_var 3))) (od_some (bd (ed_op dAdd (bd (ed_var 3)) (bd (ed_var 2)))))))))))
theorem ok_law_at (T : Txt K mg fa fd ca) : FnOk P w K mg base (L2.CX P w) 1 (fa 1) (fd 1) ["_law_script", "_law_k"] (@spOf ⟨K⟩ mg SP_law_at) := by
  letI : KC := ⟨K⟩
  have nd := sc_law_at.nd
  refine fn_ok T.F_law_at sc_law_at len_law_at (fun cdv A outer s H E hr xk => ⟨W_law_at, ?_, pure_law_at⟩)
  exact (sds_cons (sd_if (td_cmp dLt (bd (ed_var 1)) (bd (ed_callB cLen rfl T.m_len (by decide +kernel) (ab_cons (bd (ed_var 0)) ab_nil))))
  (sds_one (sd_ret (ed_ix (bd (ed_var 0)) (bd (ed_var 1)))))
  sds_nil)
  (sds_one (sd_ret ed_int)))
theorem ok_law_wide (T : Txt K mg fa fd ca) : FnOk P w K mg base (L2.CX P w) 1 (fa 2) (fd 2) ["_law_cell"] (@spOf ⟨K⟩ mg SP_law_wide) := by
  letI : KC := ⟨K⟩
  have nd := sc_law_wide.nd
  refine fn_ok T.F_law_wide sc_law_wide len_law_wide (fun cdv A outer s H E hr xk => ⟨W_law_wide, ?_, pure_law_wide⟩)
  exact (sds_one (sd_ret (ed_ix (bd (ed_new (df_lst (ad_cons ed_int (ad_cons ed_int (ad_cons ed_int (ad_cons (ed_op dSub (bd (ed_op dPow (bd ed_int) (bd ed_int))) (bd ed_int)) ad_nil))))))) (bd (ed_op dMod (bd (ed_var 0)) (bd ed_int))))))
theorem ok_law_digit (T : Txt K mg fa fd ca) : FnOk P w K mg base (L2.CX P w) 1 (fa 3) (fd 3) ["_law_rest", "_law_m"] (@spOfM ⟨K⟩ SP_law_digit) := by
  letI : KC := ⟨K⟩
  have nd := sc_law_digit.nd
  refine fn_okM T.F_law_digit sc_law_digit len_law_digit (fun cdv A outer s H E hr xk => ⟨W_law_digit, ?_, pure_law_digit⟩)
  exact (sds_cons (sd_set 2 nd (ed_op dMod (bd (ed_ix (bd_own 0) (bd ed_int))) (bd (ed_var 1))))
  (sds_cons (sd_setIx 0 (ed_op dDiv (bd (ed_ix (bd_own 0) (bd ed_int))) (bd (ed_var 1))) ed_int)
  (sds_one (sd_ret (ed_var 2)))))
theorem ok_law_mix (T : Txt K mg fa fd ca) : FnOk P w K mg base (L2.CX P w) 1 (fa 4) (fd 4) ["_law_cell", "_law_k"] (@spOf ⟨K⟩ mg SP_law_mix) := by
  letI : KC := ⟨K⟩
  have nd := sc_law_mix.nd
  refine fn_ok T.F_law_mix sc_law_mix len_law_mix (fun cdv A outer s H E hr xk => ⟨W_law_mix, ?_, pure_law_mix⟩)
  exact (sds_cons (sd_set 2 nd (ed_op dAdd (bd (ed_op dAdd (bd (ed_op dMod (bd (ed_var 0)) (bd ed_int))) (bd (ed_op dMul (bd ed_int) (bd (ed_var 1)))))) (bd ed_int)))
  (sds_cons (sd_set 2 nd (ed_op dMod (bd (ed_op dMul (bd (ed_var 2)) (bd (ed_op dAdd (bd ed_int) (bd (ed_op dMul (bd (ed_op dMul (bd ed_int) (bd (ed_var 1)))) (bd (ed_var 1)))))))) (bd ed_int)))
  (sds_one (sd_ret (ed_op dDiv (bd (ed_op dMod (bd (ed_op dMul (bd (ed_op dAdd (bd (ed_op dDiv (bd (ed_var 2)) (bd ed_int))) (bd (ed_op dMul (bd (ed_var 1)) (bd (ed_var 1)))))) (bd ed_int))) (bd ed_int))) (bd ed_int))))))
theorem ok_law_cord (T : Txt K mg fa fd ca) : FnOk P w K mg base (L2.CX P w) 2 (fa 5) (fd 5) ["_law_cell", "_law_nails_here", "_law_wide_here", "_law_most"] (@spOf ⟨K⟩ mg SP_law_cord) := by
  letI : KC := ⟨K⟩
  have nd := sc_law_cord.nd
  refine fn_ok T.F_law_cord sc_law_cord len_law_cord (fun cdv A outer s H E hr xk => ⟨W_law_cord, ?_, pure_law_cord⟩)
  exact (sds_cons (sd_setF 4 nd (df_lst ad_nil))
  (sds_cons (sd_if (td_not (td_chain dLt dLt (bd (ed_un un_neg (ed_op dPow (bd ed_int) (bd ed_int)))) (bd (ed_var 0)) (bd (ed_op dPow (bd ed_int) (bd ed_int)))))
  (sds_cons (sd_setF 6 nd (df_lst (ad_cons (ed_var 0) ad_nil)))
  (sds_cons (sd_forM rfl T.m_range xk rfl (em_call 6 (ok_law_digit T) (hr.mono (by omega)) xk rfl T.g_law_digit T.F_law_digit.kp T.b_law_digit (ad_cons (ed_op dAdd (bd (ed_var 3)) (bd ed_int)) ad_nil)) (gd_name 5 nd)
  (sds_cons (sd_setM 7 nd (em_ixR (ed_var 1) (em_call 6 (ok_law_digit T) (hr.mono (by omega)) xk rfl T.g_law_digit T.F_law_digit.kp T.b_law_digit (ad_cons (ed_callB cLen rfl T.m_len (by decide +kernel) (ab_cons (bd (ed_var 1)) ab_nil)) ad_nil))))
  (sds_one (sd_appM 4 (em_tup2 (ed_var 7) (em_opL dSub (em_call 6 (ok_law_digit T) (hr.mono (by omega)) xk rfl T.g_law_digit T.F_law_digit.kp T.b_law_digit (ad_cons (ed_op dAdd (bd (ed_op dMul (bd ed_int) (bd (ed_var 2)))) (bd ed_int)) ad_nil)) (ed_var 2)))))))
  (sds_one (sd_retOwn 4))))
  sds_nil)
  (sds_cons (sd_for xk rfl (id_range1 rfl T.m_range (ed_op dMod (bd (ed_call (ok_law_mix T) (hr.mono (by omega)) xk rfl T.g_law_mix T.F_law_mix.kp T.b_law_mix (ad_cons (ed_var 0) (ad_cons ed_int ad_nil)))) (bd (ed_op dAdd (bd (ed_var 3)) (bd ed_int))))) (gd_name 5 nd)
  (sds_cons (sd_set 7 nd (ed_ix (bd (ed_var 1)) (bd (ed_op dMod (bd (ed_call (ok_law_mix T) (hr.mono (by omega)) xk rfl T.g_law_mix T.F_law_mix.kp T.b_law_mix (ad_cons (ed_var 0) (ad_cons (ed_op dAdd (bd (ed_op dMul (bd ed_int) (bd (ed_var 5)))) (bd ed_int)) ad_nil)))) (bd (ed_callB cLen rfl T.m_len (by decide +kernel) (ab_cons (bd (ed_var 1)) ab_nil)))))))
  (sds_one (sd_mut 4 mApp PySem.F.slot_list_append PySem.F.type_list_append (ad_cons (ed_tup (ad_cons (ed_var 7) (ad_cons (ed_op dSub (bd (ed_op dMod (bd (ed_call (ok_law_mix T) (hr.mono (by omega)) xk rfl T.g_law_mix T.F_law_mix.kp T.b_law_mix (ad_cons (ed_var 0) (ad_cons (ed_op dAdd (bd (ed_op dMul (bd ed_int) (bd (ed_var 5)))) (bd ed_int)) ad_nil)))) (bd (ed_op dAdd (bd (ed_op dMul (bd ed_int) (bd (ed_var 2)))) (bd ed_int))))) (bd (ed_var 2))) ad_nil))) ad_nil)))))
  (sds_one (sd_retOwn 4)))))
theorem ok_law_contrary (T : Txt K mg fa fd ca) : FnOk P w K mg base (L2.CX P w) 1 (fa 6) (fd 6) ["_law_cord_here"] (@spOf ⟨K⟩ mg SP_law_contrary) := by
  letI : KC := ⟨K⟩
  have nd := sc_law_contrary.nd
  refine fn_ok T.F_law_contrary sc_law_contrary len_law_contrary (fun cdv A outer s H E hr xk => ⟨W_law_contrary, ?_, pure_law_contrary⟩)
  exact (sds_one (sd_retF (df_lc rfl nd (id_rev rfl T.m_reversed (ed_var 0)) (blkOk_by (own := [("_law_nail", 1), ("_law_turns", 2)]) (N := N_law_contrary) (sc := defScope s_law_contrary) (by decide +kernel)) (fun _ _ _ _ _ => (gd_tup rfl (gds_cons (gd_name 1 nd) (gds_cons (gd_name 2 nd) gds_nil)))) (fun _ _ _ _ _ => (ed_tup (ad_cons (ed_var 1) (ad_cons (ed_un un_neg (ed_var 2)) ad_nil)))))))
theorem ok_law_short (T : Txt K mg fa fd ca) : FnOk P w K mg base (L2.CX P w) 1 (fa 7) (fd 7) ["_law_cord_here"] (@spOf ⟨K⟩ mg SP_law_short) := by
  letI : KC := ⟨K⟩
  have nd := sc_law_short.nd
  refine fn_ok T.F_law_short sc_law_short len_law_short (fun cdv A outer s H E hr xk => ⟨W_law_short, ?_, pure_law_short⟩)
  exact (sds_cons (sd_setF 1 nd (df_lst ad_nil))
  (sds_cons (sd_for xk rfl (id_list (ed_var 0)) (gd_tup rfl (gds_cons (gd_name 2 nd) (gds_cons (gd_name 3 nd) gds_nil)))
  (sds_cons (sd_if (td_w (wd_and (td_cmp dGt (bd (ed_callB cLen rfl T.m_len (by decide +kernel) (ab_cons (bd_own 1) ab_nil))) (bd ed_int)) (wd_and1 (td_cmp (dEq hr) (bd (ed_ix (bd (ed_ix (bd_own 1) (bd (ed_un un_neg ed_int)))) (bd ed_int))) (bd (ed_var 2))))))
  (sds_cons (sd_set 3 nd (ed_op dAdd (bd (ed_var 3)) (bd (ed_ix (bd (ed_ix (bd_own 1) (bd (ed_un un_neg ed_int)))) (bd ed_int)))))
  (sds_one (sd_mut0 1 mPop PySem.F.slot_list_pop PySem.F.type_list_pop)))
  sds_nil)
  (sds_one (sd_if (td_cmp (dNe hr) (bd (ed_var 3)) (bd ed_int))
  (sds_one (sd_mut 1 mApp PySem.F.slot_list_append PySem.F.type_list_append (ad_cons (ed_tup (ad_cons (ed_var 2) (ad_cons (ed_var 3) ad_nil))) ad_nil)))
  sds_nil))))
  (sds_one (sd_retOwn 1))))
theorem ok_law_powered (T : Txt K mg fa fd ca) (n : Nat) : FnOk P w K mg base (L2.CX P w) (2 + n) (fa 8) (fd 8) ["_law_root", "_law_times"] (@spOf ⟨K⟩ mg (@SP_law_powered n)) := by
  letI : KC := ⟨K⟩
  have nd := sc_law_powered.nd
  induction n with
  | zero => exact fn_no no_law_powered
  | succ n ih =>
    refine fn_ok (k := 2 + n) T.F_law_powered sc_law_powered (len_law_powered (n + 1)) (fun cdv A outer s H E hr xk => ⟨W_law_powered (SP_law_powered n), ?_, pure_law_powered n⟩)
    exact (sds_cons (sd_if (td_cmp dLt (bd (ed_var 1)) (bd ed_int))
      (sds_one (sd_retF (df_call ih (hr.mono (by omega)) xk rfl T.g_law_powered T.F_law_powered.kp T.b_law_powered (ad_cons (ed_call (ok_law_contrary T) (hr.mono (by omega)) xk rfl T.g_law_contrary T.F_law_contrary.kp T.b_law_contrary (ad_cons (ed_var 0) ad_nil)) (ad_cons (ed_un un_neg (ed_var 1)) ad_nil)))))
      sds_nil)
      (sds_cons (sd_set 2 nd (ed_call (ok_law_short T) (hr.mono (by omega)) xk rfl T.g_law_short T.F_law_short.kp T.b_law_short (ad_cons (ed_var 0) ad_nil)))
      (sds_cons (sd_setF 3 nd (df_lst ad_nil))
      (sds_cons (sd_while xk (td_w (wd_and (td_cmp dGt (bd (ed_callB cLen rfl T.m_len (by decide +kernel) (ab_cons (bd (ed_var 2)) ab_nil))) (bd ed_int)) (wd_and1 (td_cmp (dEq hr) (bd (ed_ix (bd (ed_ix (bd (ed_var 2)) (bd ed_int))) (bd ed_int))) (bd (ed_ix (bd (ed_ix (bd (ed_var 2)) (bd (ed_un un_neg ed_int)))) (bd ed_int)))))))
      (sds_cons (sd_mut 3 mApp PySem.F.slot_list_append PySem.F.type_list_append (ad_cons (ed_ix (bd (ed_var 2)) (bd ed_int)) ad_nil))
      (sds_one (sd_set 2 nd (ed_call (ok_law_short T) (hr.mono (by omega)) xk rfl T.g_law_short T.F_law_short.kp T.b_law_short (ad_cons (ed_op dAdd (bd (ed_sl (bd (ed_var 2)) (od_some (bd ed_int)) od_none)) (bd (ed_new (df_lst (ad_cons (ed_ix (bd (ed_var 2)) (bd ed_int)) ad_nil))))) ad_nil))))))
      (sds_cons (sd_if (td_cmp (dEq hr) (bd (ed_callB cLen rfl T.m_len (by decide +kernel) (ab_cons (bd (ed_var 2)) ab_nil))) (bd ed_int))
      (sds_one (sd_set 2 nd (ed_new (df_lst (ad_cons (ed_tup (ad_cons (ed_ix (bd (ed_ix (bd (ed_var 2)) (bd ed_int))) (bd ed_int)) (ad_cons (ed_op dMul (bd (ed_ix (bd (ed_ix (bd (ed_var 2)) (bd ed_int))) (bd ed_int))) (bd (ed_var 1))) ad_nil))) ad_nil)))))
      (sds_one (sd_set 2 nd (ed_op dMul (bd (ed_var 2)) (bd (ed_var 1))))))
      (sds_one (sd_retF (df_call (ok_law_short T) (hr.mono (by omega)) xk rfl T.g_law_short T.F_law_short.kp T.b_law_short (ad_cons (ed_op dAdd (bd (ed_op dAdd (bd_own 3) (bd (ed_var 2)))) (bd (ed_callN (ok_law_contrary T) (hr.mono (by omega)) xk rfl T.g_law_contrary T.F_law_contrary.kp T.b_law_contrary (ab_cons (bd_own 3) ab_nil)))) ad_nil)))))))))
theorem ok_put_behind (T : Txt K mg fa fd ca) : FnOk P w K mg base (L2.CX P w) 1 (fa 9) (fd 9) ["runs", "nail", "turns"] (@spOfM ⟨K⟩ SP_put_behind) := by
  letI : KC := ⟨K⟩
  have nd := sc_put_behind.nd
  refine fn_okM T.F_put_behind sc_put_behind len_put_behind (fun cdv A outer s H E hr xk => ⟨W_put_behind, ?_, pure_put_behind⟩)
  exact (sds_cons (sd_if (td_cmp (dEq hr) (bd (ed_var 2)) (bd ed_int))
  (sds_one sd_retN)
  sds_nil)
  (sds_cons (sd_if (td_w (wd_and (td_cmp dGt (bd (ed_callB cLen rfl T.m_len (by decide +kernel) (ab_cons (bd_own 0) ab_nil))) (bd ed_int)) (wd_and1 (td_cmp (dEq hr) (bd (ed_ix (bd (ed_ix (bd_own 0) (bd (ed_un un_neg ed_int)))) (bd ed_int))) (bd (ed_var 1))))))
  (sds_cons (sd_aug 2 nd pipAdd (ed_ix (bd (ed_ix (bd_own 0) (bd (ed_un un_neg ed_int)))) (bd ed_int)))
  (sds_one (sd_mut0 0 mPop PySem.F.slot_list_pop PySem.F.type_list_pop)))
  sds_nil)
  (sds_one (sd_if (td_cmp (dNe hr) (bd (ed_var 2)) (bd ed_int))
  (sds_one (sd_mut 0 mApp PySem.F.slot_list_append PySem.F.type_list_append (ad_cons (ed_tup (ad_cons (ed_var 1) (ad_cons (ed_var 2) ad_nil))) ad_nil)))
  sds_nil))))
theorem ok_short_form (T : Txt K mg fa fd ca) : FnOk P w K mg base (L2.CX P w) 2 (fa 10) (fd 10) ["cord"] (@spOf ⟨K⟩ mg SP_short_form) := by
  letI : KC := ⟨K⟩
  have nd := sc_short_form.nd
  refine fn_ok T.F_short_form sc_short_form len_short_form (fun cdv A outer s H E hr xk => ⟨W_short_form, ?_, pure_short_form⟩)
  exact (sds_cons (sd_setF 1 nd (df_lst ad_nil))
  (sds_cons (sd_for xk rfl (id_list (ed_var 0)) (gd_tup rfl (gds_cons (gd_name 2 nd) (gds_cons (gd_name 3 nd) gds_nil)))
  (sds_one (sd_callM 1 (ok_put_behind T) (hr.mono (by omega)) xk rfl T.g_put_behind T.F_put_behind.kp T.b_put_behind (ad_cons (ed_var 2) (ad_cons (ed_var 3) ad_nil)))))
  (sds_one (sd_retOwn 1))))
theorem ok_loosened (T : Txt K mg fa fd ca) : FnOk P w K mg base (L2.CX P w) 3 (fa 11) (fd 11) ["cord"] (@spOf ⟨K⟩ mg SP_loosened) := by
  letI : KC := ⟨K⟩
  have nd := sc_loosened.nd
  refine fn_ok T.F_loosened sc_loosened len_loosened (fun cdv A outer s H E hr xk => ⟨W_loosened, ?_, pure_loosened⟩)
  exact (sds_cons (sd_setF 1 nd (df_call (ok_short_form T) (hr.mono (by omega)) xk rfl T.g_short_form T.F_short_form.kp T.b_short_form (ad_cons (ed_var 0) ad_nil)))
  (sds_cons (sd_setF 2 nd (df_lst ad_nil))
  (sds_cons (sd_set 3 nd ed_int)
  (sds_cons (sd_set 4 nd (ed_op dSub (bd (ed_callB cLen rfl T.m_len (by decide +kernel) (ab_cons (bd_own 1) ab_nil))) (bd ed_int)))
  (sds_cons (sd_while xk (td_w (wd_and (td_cmp dLt (bd (ed_var 3)) (bd (ed_var 4))) (wd_and1 (td_cmp (dEq hr) (bd (ed_ix (bd (ed_ix (bd_own 1) (bd (ed_var 3)))) (bd ed_int))) (bd (ed_ix (bd (ed_ix (bd_own 1) (bd (ed_var 4)))) (bd ed_int)))))))
  (sds_cons (sd_set 5 nd (ed_ix (bd_own 1) (bd (ed_var 3))))
  (sds_cons (sd_mut 2 mApp PySem.F.slot_list_append PySem.F.type_list_append (ad_cons (ed_var 5) ad_nil))
  (sds_cons (sd_set 6 nd (ed_op dAdd (bd (ed_ix (bd (ed_var 5)) (bd ed_int))) (bd (ed_ix (bd (ed_ix (bd_own 1) (bd (ed_var 4)))) (bd ed_int)))))
  (sds_cons (sd_set 3 nd (ed_op dAdd (bd (ed_var 3)) (bd ed_int)))
  (sds_cons (sd_if (td_cmp (dNe hr) (bd (ed_var 6)) (bd ed_int))
  (sds_cons (sd_setIx 1 (ed_tup (ad_cons (ed_ix (bd (ed_var 5)) (bd ed_int)) (ad_cons (ed_var 6) ad_nil))) (ed_var 4))
  (sds_one sd_break))
  sds_nil)
  (sds_one (sd_set 4 nd (ed_op dSub (bd (ed_var 4)) (bd ed_int))))))))))
  (sds_frz 2 (sds_one (sd_ret (ed_tup (ad_cons (ed_var 2) (ad_cons (ed_sl (bd_own 1) (od_some (bd (ed_var 3))) (od_some (bd (ed_op dAdd (bd (ed_var 4)) (bd ed_int))))) ad_nil)))))))))))
theorem ok_repeated (T : Txt K mg fa fd ca) : FnOk P w K mg base (L2.CX P w) 1 (fa 12) (fd 12) ["runs"] (@spOf ⟨K⟩ mg SP_repeated) := by
  letI : KC := ⟨K⟩
  have nd := sc_repeated.nd
  refine fn_ok T.F_repeated sc_repeated len_repeated (fun cdv A outer s H E hr xk => ⟨W_repeated, ?_, pure_repeated⟩)
  exact (sds_cons (sd_for xk rfl (id_range2 rfl T.m_range ed_int (ed_callB cLen rfl T.m_len (by decide +kernel) (ab_cons (bd (ed_var 0)) ab_nil))) (gd_name 1 nd)
  (sds_one (sd_if (td_w (wd_and (td_cmp (dEq hr) (bd (ed_op dMod (bd (ed_callB cLen rfl T.m_len (by decide +kernel) (ab_cons (bd (ed_var 0)) ab_nil))) (bd (ed_var 1)))) (bd ed_int)) (wd_and1 (td_cmp (dEq hr) (bd (ed_op dMul (bd (ed_sl (bd (ed_var 0)) od_none (od_some (bd (ed_var 1))))) (bd (ed_op dDiv (bd (ed_callB cLen rfl T.m_len (by decide +kernel) (ab_cons (bd (ed_var 0)) ab_nil))) (bd (ed_var 1)))))) (bd (ed_var 0))))))
  (sds_one (sd_ret (ed_op dDiv (bd (ed_callB cLen rfl T.m_len (by decide +kernel) (ab_cons (bd (ed_var 0)) ab_nil))) (bd (ed_var 1)))))
  sds_nil)))
  (sds_one (sd_ret ed_int)))
theorem ok_contrary (T : Txt K mg fa fd ca) : FnOk P w K mg base (L2.CX P w) 1 (fa 13) (fd 13) ["cord"] (@spOf ⟨K⟩ mg SP_contrary) := by
  letI : KC := ⟨K⟩
  have nd := sc_contrary.nd
  refine fn_ok T.F_contrary sc_contrary len_contrary (fun cdv A outer s H E hr xk => ⟨W_contrary, ?_, pure_contrary⟩)
  exact (sds_one (sd_retF (df_lc rfl nd (id_rev rfl T.m_reversed (ed_var 0)) (blkOk_by (own := [("nail", 1), ("turns", 2)]) (N := N_contrary) (sc := defScope s_contrary) (by decide +kernel)) (fun _ _ _ _ _ => (gd_tup rfl (gds_cons (gd_name 1 nd) (gds_cons (gd_name 2 nd) gds_nil)))) (fun _ _ _ _ _ => (ed_tup (ad_cons (ed_var 1) (ad_cons (ed_un un_neg (ed_var 2)) ad_nil)))))))
theorem ok_root_of (T : Txt K mg fa fd ca) : FnOk P w K mg base (L2.CX P w) 4 (fa 14) (fd 14) ["cord"] (@spOf ⟨K⟩ mg SP_root_of) := by
  letI : KC := ⟨K⟩
  have nd := sc_root_of.nd
  refine fn_ok T.F_root_of sc_root_of len_root_of (fun cdv A outer s H E hr xk => ⟨W_root_of, ?_, pure_root_of⟩)
  exact (sds_cons (sd_asg (ed_call (ok_loosened T) (hr.mono (by omega)) xk rfl T.g_loosened T.F_loosened.kp T.b_loosened (ad_cons (ed_var 0) ad_nil)) (gd_tup rfl (gds_cons (gd_name 1 nd) (gds_cons (gd_name 2 nd) gds_nil))))
  (sds_cons (sd_if (td_cmp (dEq hr) (bd (ed_callB cLen rfl T.m_len (by decide +kernel) (ab_cons (bd (ed_var 2)) ab_nil))) (bd ed_int))
  (sds_one (sd_ret ed_non))
  sds_nil)
  (sds_cons (sd_if (td_cmp (dEq hr) (bd (ed_callB cLen rfl T.m_len (by decide +kernel) (ab_cons (bd (ed_var 2)) ab_nil))) (bd ed_int))
  (sds_cons (sd_asg (ed_ix (bd (ed_var 2)) (bd ed_int)) (gd_tup rfl (gds_cons (gd_name 4 nd) (gds_cons (gd_name 5 nd) gds_nil))))
  (sds_cons (sd_set 3 nd (ed_callB cAbs rfl T.m_abs (by decide +kernel) (ab_cons (bd (ed_var 5)) ab_nil)))
  (sds_one (sd_set 2 nd (ed_new (df_lst (ad_cons (ed_tup (ad_cons (ed_var 4) (ad_cons (ed_op dDiv (bd (ed_var 5)) (bd (ed_var 3))) ad_nil))) ad_nil)))))))
  (sds_cons (sd_set 3 nd (ed_call (ok_repeated T) (hr.mono (by omega)) xk rfl T.g_repeated T.F_repeated.kp T.b_repeated (ad_cons (ed_var 2) ad_nil)))
  (sds_one (sd_set 2 nd (ed_sl (bd (ed_var 2)) od_none (od_some (bd (ed_op dDiv (bd (ed_callB cLen rfl T.m_len (by decide +kernel) (ab_cons (bd (ed_var 2)) ab_nil))) (bd (ed_var 3))))))))))
  (sds_one (sd_ret (ed_tup (ad_cons (ed_call (ok_short_form T) (hr.mono (by omega)) xk rfl T.g_short_form T.F_short_form.kp T.b_short_form (ad_cons (ed_op dAdd (bd (ed_op dAdd (bd (ed_var 1)) (bd (ed_var 2)))) (bd (ed_call (ok_contrary T) (hr.mono (by omega)) xk rfl T.g_contrary T.F_contrary.kp T.b_contrary (ad_cons (ed_var 1) ad_nil)))) ad_nil)) (ad_cons (ed_var 3) ad_nil))))))))
theorem ok_common_root (T : Txt K mg fa fd ca) : FnOk P w K mg base (L2.CX P w) 5 (fa 15) (fd 15) ["one", "other"] (@spOf ⟨K⟩ mg SP_common_root) := by
  letI : KC := ⟨K⟩
  have nd := sc_common_root.nd
  refine fn_ok T.F_common_root sc_common_root len_common_root (fun cdv A outer s H E hr xk => ⟨W_common_root, ?_, pure_common_root⟩)
  exact (sds_cons (sd_set 2 nd (ed_call (ok_root_of T) (hr.mono (by omega)) xk rfl T.g_root_of T.F_root_of.kp T.b_root_of (ad_cons (ed_var 0) ad_nil)))
  (sds_cons (sd_set 3 nd (ed_call (ok_root_of T) (hr.mono (by omega)) xk rfl T.g_root_of T.F_root_of.kp T.b_root_of (ad_cons (ed_var 1) ad_nil)))
  (sds_cons (sd_if (td_w (wd_and (td_cmp dIsN (bd (ed_var 2)) (bd ed_non)) (wd_and1 (td_cmp dIsN (bd (ed_var 3)) (bd ed_non)))))
  (sds_one (sd_ret (ed_tup (ad_cons (ed_new (df_lst ad_nil)) (ad_cons ed_int (ad_cons ed_int ad_nil))))))
  sds_nil)
  (sds_cons (sd_if (td_cmp dIsN (bd (ed_var 2)) (bd ed_non))
  (sds_one (sd_ret (ed_tup (ad_cons (ed_ix (bd (ed_var 3)) (bd ed_int)) (ad_cons ed_int (ad_cons (ed_ix (bd (ed_var 3)) (bd ed_int)) ad_nil))))))
  sds_nil)
  (sds_cons (sd_if (td_cmp dIsN (bd (ed_var 3)) (bd ed_non))
  (sds_one (sd_ret (ed_tup (ad_cons (ed_ix (bd (ed_var 2)) (bd ed_int)) (ad_cons (ed_ix (bd (ed_var 2)) (bd ed_int)) (ad_cons ed_int ad_nil))))))
  sds_nil)
  (sds_cons (sd_if (td_cmp (dEq hr) (bd (ed_ix (bd (ed_var 3)) (bd ed_int))) (bd (ed_ix (bd (ed_var 2)) (bd ed_int))))
  (sds_one (sd_ret (ed_tup (ad_cons (ed_ix (bd (ed_var 2)) (bd ed_int)) (ad_cons (ed_ix (bd (ed_var 2)) (bd ed_int)) (ad_cons (ed_ix (bd (ed_var 3)) (bd ed_int)) ad_nil))))))
  sds_nil)
  (sds_cons (sd_if (td_cmp (dEq hr) (bd (ed_ix (bd (ed_var 3)) (bd ed_int))) (bd (ed_call (ok_contrary T) (hr.mono (by omega)) xk rfl T.g_contrary T.F_contrary.kp T.b_contrary (ad_cons (ed_ix (bd (ed_var 2)) (bd ed_int)) ad_nil))))
  (sds_one (sd_ret (ed_tup (ad_cons (ed_ix (bd (ed_var 2)) (bd ed_int)) (ad_cons (ed_ix (bd (ed_var 2)) (bd ed_int)) (ad_cons (ed_un un_neg (ed_ix (bd (ed_var 3)) (bd ed_int))) ad_nil))))))
  sds_nil)
  (sds_one (sd_ret ed_non)))))))))
theorem ok_law_is_short (T : Txt K mg fa fd ca) : FnOk P w K mg base (L2.CX P w) 2 (fa 16) (fd 16) ["_law_found"] (@spOf ⟨K⟩ mg SP_law_is_short) := by
  letI : KC := ⟨K⟩
  have nd := sc_law_is_short.nd
  refine fn_ok T.F_law_is_short sc_law_is_short len_law_is_short (fun cdv A outer s H E hr xk => ⟨W_law_is_short, ?_, pure_law_is_short⟩)
  exact (sds_cons (sd_if (td_not (td_val (bd (ed_isT rfl T.m_isinstance rfl T.m_list (by decide +kernel) (bd (ed_var 0))))))
  (sds_one (sd_ret ed_bl))
  sds_nil)
  (sds_cons (sd_for xk rfl (id_list (ed_var 0)) (gd_name 1 nd)
  (sds_cons (sd_if (td_w (wd_or (td_not (td_val (bd (ed_isT rfl T.m_isinstance rfl T.m_tuple (by decide +kernel) (bd (ed_var 1)))))) (wd_or (td_cmp (dNe hr) (bd (ed_callB cLen rfl T.m_len (by decide +kernel) (ab_cons (bd (ed_var 1)) ab_nil))) (bd ed_int)) (wd_or1 (td_not (td_val (bd (ed_isT rfl T.m_isinstance rfl T.m_str (by decide +kernel) (bd (ed_ix (bd (ed_var 1)) (bd ed_int)))))))))))
  (sds_one (sd_ret ed_bl))
  sds_nil)
  (sds_one (sd_if (td_w (wd_or (td_not (td_val (bd (ed_isT rfl T.m_isinstance rfl T.m_int (by decide +kernel) (bd (ed_ix (bd (ed_var 1)) (bd ed_int))))))) (wd_or1 (td_val (bd (ed_isT rfl T.m_isinstance rfl T.m_bool (by decide +kernel) (bd (ed_ix (bd (ed_var 1)) (bd ed_int)))))))))
  (sds_one (sd_ret ed_bl))
  sds_nil))))
  (sds_one (sd_ret (ed_cmp (dEq hr) (bd (ed_call (ok_law_short T) (hr.mono (by omega)) xk rfl T.g_law_short T.F_law_short.kp T.b_law_short (ad_cons (ed_var 0) ad_nil))) (bd (ed_var 0)))))))
theorem ok_law_whole (T : Txt K mg fa fd ca) : FnOk P w K mg base (L2.CX P w) 1 (fa 17) (fd 17) ["_law_found"] (@spOf ⟨K⟩ mg SP_law_whole) := by
  letI : KC := ⟨K⟩
  have nd := sc_law_whole.nd
  refine fn_ok T.F_law_whole sc_law_whole len_law_whole (fun cdv A outer s H E hr xk => ⟨W_law_whole, ?_, pure_law_whole⟩)
  exact (sds_one (sd_ret (ed_and (ed_isT rfl T.m_isinstance rfl T.m_int (by decide +kernel) (bd (ed_var 0))) (ed_one (ed_not (bd (ed_isT rfl T.m_isinstance rfl T.m_bool (by decide +kernel) (bd (ed_var 0)))))))))
theorem ok_law_often (T : Txt K mg fa fd ca) : FnOk P w K mg base (L2.CX P w) 2 (fa 18) (fd 18) ["_law_cord_here"] (@spOf ⟨K⟩ mg SP_law_often) := by
  letI : KC := ⟨K⟩
  have nd := sc_law_often.nd
  refine fn_ok T.F_law_often sc_law_often len_law_often (fun cdv A outer s H E hr xk => ⟨W_law_often, ?_, pure_law_often⟩)
  exact (sds_cons (sd_set 1 nd (ed_call (ok_law_short T) (hr.mono (by omega)) xk rfl T.g_law_short T.F_law_short.kp T.b_law_short (ad_cons (ed_var 0) ad_nil)))
  (sds_cons (sd_while xk (td_w (wd_and (td_cmp dGt (bd (ed_callB cLen rfl T.m_len (by decide +kernel) (ab_cons (bd (ed_var 1)) ab_nil))) (bd ed_int)) (wd_and1 (td_cmp (dEq hr) (bd (ed_ix (bd (ed_ix (bd (ed_var 1)) (bd ed_int))) (bd ed_int))) (bd (ed_ix (bd (ed_ix (bd (ed_var 1)) (bd (ed_un un_neg ed_int)))) (bd ed_int)))))))
  (sds_one (sd_set 1 nd (ed_call (ok_law_short T) (hr.mono (by omega)) xk rfl T.g_law_short T.F_law_short.kp T.b_law_short (ad_cons (ed_op dAdd (bd (ed_sl (bd (ed_var 1)) (od_some (bd ed_int)) od_none)) (bd (ed_new (df_lst (ad_cons (ed_ix (bd (ed_var 1)) (bd ed_int)) ad_nil))))) ad_nil)))))
  (sds_cons (sd_if (td_cmp (dEq hr) (bd (ed_callB cLen rfl T.m_len (by decide +kernel) (ab_cons (bd (ed_var 1)) ab_nil))) (bd ed_int))
  (sds_one (sd_ret (ed_callB cAbs rfl T.m_abs (by decide +kernel) (ab_cons (bd (ed_ix (bd (ed_ix (bd (ed_var 1)) (bd ed_int))) (bd ed_int))) ab_nil))))
  sds_nil)
  (sds_cons (sd_set 2 nd (ed_callT cInt rfl T.m_int (by decide +kernel) (ab_cons (bd (ed_cmp dGt (bd (ed_callB cLen rfl T.m_len (by decide +kernel) (ab_cons (bd (ed_var 1)) ab_nil))) (bd ed_int))) ab_nil)))
  (sds_cons (sd_for xk rfl (id_range2 rfl T.m_range ed_int (ed_op dAdd (bd (ed_callB cLen rfl T.m_len (by decide +kernel) (ab_cons (bd (ed_var 1)) ab_nil))) (bd ed_int))) (gd_name 3 nd)
  (sds_cons (sd_set 4 nd (ed_op dDiv (bd (ed_callB cLen rfl T.m_len (by decide +kernel) (ab_cons (bd (ed_var 1)) ab_nil))) (bd (ed_var 3))))
  (sds_one (sd_if (td_w (wd_and (td_cmp (dEq hr) (bd (ed_op dMul (bd (ed_var 4)) (bd (ed_var 3)))) (bd (ed_callB cLen rfl T.m_len (by decide +kernel) (ab_cons (bd (ed_var 1)) ab_nil)))) (wd_and1 (td_cmp (dEq hr) (bd (ed_op dMul (bd (ed_sl (bd (ed_var 1)) od_none (od_some (bd (ed_var 4))))) (bd (ed_var 3)))) (bd (ed_var 1))))))
  (sds_one (sd_set 2 nd (ed_var 3)))
  sds_nil))))
  (sds_one (sd_ret (ed_var 2))))))))
theorem ok_law_shared (T : Txt K mg fa fd ca) : FnOk P w K mg base (L2.CX P w) 6 (fa 19) (fd 19) ["_law_one", "_law_other"] (@spOf ⟨K⟩ mg SP_law_shared) := by
  letI : KC := ⟨K⟩
  have nd := sc_law_shared.nd
  refine fn_ok T.F_law_shared sc_law_shared len_law_shared (fun cdv A outer s H E hr xk => ⟨W_law_shared, ?_, pure_law_shared⟩)
  exact (sds_cons (sd_set 2 nd (ed_new (df_lst (ad_cons (ed_new (df_callT cListF rfl T.m_list (by decide +kernel) (ab_cons (bd (ed_var 0)) ab_nil))) (ad_cons (ed_new (df_callT cListF rfl T.m_list (by decide +kernel) (ab_cons (bd (ed_var 1)) ab_nil))) ad_nil)))))
  (sds_cons (sd_set 3 nd (ed_call (ok_common_root T) (hr.mono (by omega)) xk rfl T.g_common_root T.F_common_root.kp T.b_common_root (ad_cons (ed_ix (bd (ed_var 2)) (bd ed_int)) (ad_cons (ed_ix (bd (ed_var 2)) (bd ed_int)) ad_nil))))
  (sds_cons (sd_if (td_cmp (dNe hr) (bd (ed_var 2)) (bd (ed_new (df_lst (ad_cons (ed_var 0) (ad_cons (ed_var 1) ad_nil))))))
  (sds_one (sd_ret ed_bl))
  sds_nil)
  (sds_cons (sd_if (td_cmp (dNe hr) (bd (ed_call (ok_law_short T) (hr.mono (by omega)) xk rfl T.g_law_short T.F_law_short.kp T.b_law_short (ad_cons (ed_op dAdd (bd (ed_var 0)) (bd (ed_var 1))) ad_nil))) (bd (ed_call (ok_law_short T) (hr.mono (by omega)) xk rfl T.g_law_short T.F_law_short.kp T.b_law_short (ad_cons (ed_op dAdd (bd (ed_var 1)) (bd (ed_var 0))) ad_nil))))
  (sds_one (sd_ret (ed_cmp dIsN (bd (ed_var 3)) (bd ed_non))))
  sds_nil)
  (sds_cons (sd_if (td_w (wd_or (td_not (td_val (bd (ed_isT rfl T.m_isinstance rfl T.m_tuple (by decide +kernel) (bd (ed_var 3)))))) (wd_or (td_cmp (dNe hr) (bd (ed_callB cLen rfl T.m_len (by decide +kernel) (ab_cons (bd (ed_var 3)) ab_nil))) (bd ed_int)) (wd_or1 (td_not (td_val (bd (ed_call (ok_law_is_short T) (hr.mono (by omega)) xk rfl T.g_law_is_short T.F_law_is_short.kp T.b_law_is_short (ad_cons (ed_ix (bd (ed_var 3)) (bd ed_int)) ad_nil)))))))))
  (sds_one (sd_ret ed_bl))
  sds_nil)
  (sds_cons (sd_if (td_w (wd_or (td_not (td_val (bd (ed_call (ok_law_whole T) (hr.mono (by omega)) xk rfl T.g_law_whole T.F_law_whole.kp T.b_law_whole (ad_cons (ed_ix (bd (ed_var 3)) (bd ed_int)) ad_nil))))) (wd_or1 (td_not (td_val (bd (ed_call (ok_law_whole T) (hr.mono (by omega)) xk rfl T.g_law_whole T.F_law_whole.kp T.b_law_whole (ad_cons (ed_ix (bd (ed_var 3)) (bd ed_int)) ad_nil))))))))
  (sds_one (sd_ret ed_bl))
  sds_nil)
  (sds_cons (sd_set 4 nd (ed_call (ok_law_often T) (hr.mono (by omega)) xk rfl T.g_law_often T.F_law_often.kp T.b_law_often (ad_cons (ed_var 0) ad_nil)))
  (sds_cons (sd_set 5 nd (ed_call (ok_law_often T) (hr.mono (by omega)) xk rfl T.g_law_often T.F_law_often.kp T.b_law_often (ad_cons (ed_var 1) ad_nil)))
  (sds_cons (sd_if (td_w (wd_or (td_cmp (dNe hr) (bd (ed_ix (bd (ed_var 3)) (bd ed_int))) (bd (ed_var 4))) (wd_or1 (td_cmp (dNe hr) (bd (ed_callB cAbs rfl T.m_abs (by decide +kernel) (ab_cons (bd (ed_ix (bd (ed_var 3)) (bd ed_int))) ab_nil))) (bd (ed_var 5))))))
  (sds_one (sd_ret ed_bl))
  sds_nil)
  (sds_cons (sd_if (td_w (wd_and (td_cmp (dEq hr) (bd (ed_var 4)) (bd ed_int)) (wd_and1 (td_cmp (dEq hr) (bd (ed_var 5)) (bd ed_int)))))
  (sds_one (sd_ret (ed_cmp (dEq hr) (bd (ed_ix (bd (ed_var 3)) (bd ed_int))) (bd (ed_new (df_lst ad_nil))))))
  sds_nil)
  (sds_cons (sd_if (td_w (wd_and (td_cmp (dEq hr) (bd (ed_var 4)) (bd ed_int)) (wd_and1 (td_cmp dLt (bd (ed_ix (bd (ed_var 3)) (bd ed_int))) (bd ed_int)))))
  (sds_one (sd_ret ed_bl))
  sds_nil)
  (sds_cons (sd_if (td_cmp (dNe hr) (bd (ed_call (ok_law_powered T 3) (hr.mono (by omega)) xk rfl T.g_law_powered T.F_law_powered.kp T.b_law_powered (ad_cons (ed_ix (bd (ed_var 3)) (bd ed_int)) (ad_cons (ed_ix (bd (ed_var 3)) (bd ed_int)) ad_nil)))) (bd (ed_call (ok_law_short T) (hr.mono (by omega)) xk rfl T.g_law_short T.F_law_short.kp T.b_law_short (ad_cons (ed_var 0) ad_nil))))
  (sds_one (sd_ret ed_bl))
  sds_nil)
  (sds_one (sd_ret (ed_cmp (dEq hr) (bd (ed_call (ok_law_powered T 3) (hr.mono (by omega)) xk rfl T.g_law_powered T.F_law_powered.kp T.b_law_powered (ad_cons (ed_ix (bd (ed_var 3)) (bd ed_int)) (ad_cons (ed_ix (bd (ed_var 3)) (bd ed_int)) ad_nil)))) (bd (ed_call (ok_law_short T) (hr.mono (by omega)) xk rfl T.g_law_short T.F_law_short.kp T.b_law_short (ad_cons (ed_var 1) ad_nil))))))))))))))))))
theorem ok_law (T : Txt K mg fa fd ca) : FnOk P w K mg base (L2.CX P w) 7 (fa 20) (fd 20) ["_law_script"] (@spOf ⟨K⟩ mg SP_law) := by
  letI : KC := ⟨K⟩
  have nd := sc_law.nd
  refine fn_ok T.F_law sc_law len_law (fun cdv A outer s H E hr xk => ⟨W_law, ?_, pure_law⟩)
  exact (sds_cons (sd_set 1 nd (ed_call (ok_law_nails T) (hr.mono (by omega)) xk rfl T.g_law_nails T.F_law_nails.kp T.b_law_nails (ad_cons (ed_call (ok_law_at T) (hr.mono (by omega)) xk rfl T.g_law_at T.F_law_at.kp T.b_law_at (ad_cons (ed_var 0) (ad_cons ed_int ad_nil))) ad_nil)))
  (sds_cons (sd_set 2 nd (ed_call (ok_law_wide T) (hr.mono (by omega)) xk rfl T.g_law_wide T.F_law_wide.kp T.b_law_wide (ad_cons (ed_op dDiv (bd (ed_call (ok_law_at T) (hr.mono (by omega)) xk rfl T.g_law_at T.F_law_at.kp T.b_law_at (ad_cons (ed_var 0) (ad_cons ed_int ad_nil)))) (bd ed_int)) ad_nil)))
  (sds_cons (sd_set 3 nd (ed_op dMod (bd (ed_op dDiv (bd (ed_call (ok_law_at T) (hr.mono (by omega)) xk rfl T.g_law_at T.F_law_at.kp T.b_law_at (ad_cons (ed_var 0) (ad_cons ed_int ad_nil)))) (bd ed_int))) (bd ed_int)))
  (sds_cons (sd_set 4 nd (ed_call (ok_law_cord T) (hr.mono (by omega)) xk rfl T.g_law_cord T.F_law_cord.kp T.b_law_cord (ad_cons (ed_call (ok_law_at T) (hr.mono (by omega)) xk rfl T.g_law_at T.F_law_at.kp T.b_law_at (ad_cons (ed_var 0) (ad_cons ed_int ad_nil))) (ad_cons (ed_var 1) (ad_cons (ed_var 2) (ad_cons ed_int ad_nil))))))
  (sds_cons (sd_set 5 nd (ed_call (ok_law_cord T) (hr.mono (by omega)) xk rfl T.g_law_cord T.F_law_cord.kp T.b_law_cord (ad_cons (ed_call (ok_law_at T) (hr.mono (by omega)) xk rfl T.g_law_at T.F_law_at.kp T.b_law_at (ad_cons (ed_var 0) (ad_cons ed_int ad_nil))) (ad_cons (ed_var 1) (ad_cons (ed_var 2) (ad_cons ed_int ad_nil))))))
  (sds_cons (sd_set 6 nd (ed_op dAdd (bd (ed_op dAdd (bd (ed_var 5)) (bd (ed_var 4)))) (bd (ed_call (ok_law_contrary T) (hr.mono (by omega)) xk rfl T.g_law_contrary T.F_law_contrary.kp T.b_law_contrary (ad_cons (ed_var 5) ad_nil)))))
  (sds_cons (sd_set 7 nd (ed_op dAdd (bd (ed_call (ok_law_powered T 3) (hr.mono (by omega)) xk rfl T.g_law_powered T.F_law_powered.kp T.b_law_powered (ad_cons (ed_var 6) (ad_cons (ed_op dSub (bd (ed_op dMod (bd (ed_call (ok_law_at T) (hr.mono (by omega)) xk rfl T.g_law_at T.F_law_at.kp T.b_law_at (ad_cons (ed_var 0) (ad_cons ed_int ad_nil)))) (bd ed_int))) (bd ed_int)) ad_nil)))) (bd (ed_new (df_lst (ad_cons (ed_tup (ad_cons (ed_ix (bd (ed_var 1)) (bd ed_int)) (ad_cons ed_int ad_nil))) ad_nil))))))
  (sds_cons (sd_setF 8 nd (df_call (ok_law_powered T 3) (hr.mono (by omega)) xk rfl T.g_law_powered T.F_law_powered.kp T.b_law_powered (ad_cons (ed_var 6) (ad_cons (ed_op dSub (bd (ed_op dMod (bd (ed_call (ok_law_at T) (hr.mono (by omega)) xk rfl T.g_law_at T.F_law_at.kp T.b_law_at (ad_cons (ed_var 0) (ad_cons ed_int ad_nil)))) (bd ed_int))) (bd ed_int)) ad_nil))))
  (sds_cons (sd_if (td_cmp (dEq hr) (bd (ed_var 3)) (bd ed_int))
  (sds_cons (sd_set 7 nd (ed_call (ok_law_cord T) (hr.mono (by omega)) xk rfl T.g_law_cord T.F_law_cord.kp T.b_law_cord (ad_cons (ed_call (ok_law_at T) (hr.mono (by omega)) xk rfl T.g_law_at T.F_law_at.kp T.b_law_at (ad_cons (ed_var 0) (ad_cons ed_int ad_nil))) (ad_cons (ed_var 1) (ad_cons (ed_var 2) (ad_cons ed_int ad_nil))))))
  (sds_one (sd_setF 8 nd (df_call (ok_law_cord T) (hr.mono (by omega)) xk rfl T.g_law_cord T.F_law_cord.kp T.b_law_cord (ad_cons (ed_call (ok_law_at T) (hr.mono (by omega)) xk rfl T.g_law_at T.F_law_at.kp T.b_law_at (ad_cons (ed_var 0) (ad_cons ed_int ad_nil))) (ad_cons (ed_var 1) (ad_cons (ed_var 2) (ad_cons ed_int ad_nil))))))))
  (sds_one (sd_if (td_cmp (dEq hr) (bd (ed_op dMod (bd (ed_call (ok_law_at T) (hr.mono (by omega)) xk rfl T.g_law_at T.F_law_at.kp T.b_law_at (ad_cons (ed_var 0) (ad_cons ed_int ad_nil)))) (bd ed_int))) (bd ed_int))
  (sds_cons (sd_set 9 nd (ed_op dDiv (bd (ed_call (ok_law_at T) (hr.mono (by omega)) xk rfl T.g_law_at T.F_law_at.kp T.b_law_at (ad_cons (ed_var 0) (ad_cons ed_int ad_nil)))) (bd ed_int)))
  (sds_one (sd_mut 8 mApp PySem.F.slot_list_append PySem.F.type_list_append (ad_cons (ed_tup (ad_cons (ed_ix (bd (ed_var 1)) (bd (ed_op dMod (bd (ed_var 9)) (bd (ed_callB cLen rfl T.m_len (by decide +kernel) (ab_cons (bd (ed_var 1)) ab_nil)))))) (ad_cons (ed_op dSub (bd (ed_op dMod (bd (ed_op dDiv (bd (ed_var 9)) (bd ed_int))) (bd (ed_op dAdd (bd (ed_op dMul (bd ed_int) (bd (ed_var 2)))) (bd ed_int))))) (bd (ed_var 2))) ad_nil))) ad_nil))))
  sds_nil)))
  (sds_one (sd_ret (ed_and (ed_callN (ok_law_shared T) (hr.mono (by omega)) xk rfl T.g_law_shared T.F_law_shared.kp T.b_law_shared (ab_cons (bd (ed_var 7)) (ab_cons (bd_own 8) ab_nil))) (ed_and (ed_callN (ok_law_shared T) (hr.mono (by omega)) xk rfl T.g_law_shared T.F_law_shared.kp T.b_law_shared (ab_cons (bd_own 8) (ab_cons (bd (ed_var 7)) ab_nil))) (ed_one (ed_call (ok_law_shared T) (hr.mono (by omega)) xk rfl T.g_law_shared T.F_law_shared.kp T.b_law_shared (ad_cons (ed_var 7) (ad_cons (ed_var 6) ad_nil)))))))))))))))))
end
theorem all_mk {l : PySem.W.OpenLaw} {w : World} {K : PySem.W.Frag} {h : Heap} {mg : Str → Option Value} {fl : Addr} (X : K.In h) (G : h.Ns mainGlobals mg) (hfl : mg "law" = some (.ref fl))
    {f0 f1 f2 f3 f4 f5 f6 f7 f8 f9 f10 f11 f12 f13 f14 f15 f16 f17 f18 f19 f20 : Addr}
    {od0 an0 od1 an1 od2 an2 od3 an3 od4 an4 od5 an5 od6 an6 od7 an7 od8 an8 od9 an9 od10 an10 od11 an11 od12 an12 od13 an13 od14 an14 od15 an15 od16 an16 od17 an17 od18 an18 od19 an19 od20 an20 : Option Addr} {sl0 sl1 sl2 sl3 sl4 sl5 sl6 sl7 sl8 sl9 sl10 sl11 sl12 sl13 sl14 sl15 sl16 sl17 sl18 sl19 sl20 : Array (Option Value)} {oc0 kV0 dc0 pm0 cd0 ct0 oc1 kV1 dc1 pm1 cd1 ct1 oc2 kV2 dc2 pm2 cd2 ct2 oc3 kV3 dc3 pm3 cd3 ct3 oc4 kV4 dc4 pm4 cd4 ct4 oc5 kV5 dc5 pm5 cd5 ct5 oc6 kV6 dc6 pm6 cd6 ct6 oc7 kV7 dc7 pm7 cd7 ct7 oc8 kV8 dc8 pm8 cd8 ct8 oc9 kV9 dc9 pm9 cd9 ct9 oc10 kV10 dc10 pm10 cd10 ct10 oc11 kV11 dc11 pm11 cd11 ct11 oc12 kV12 dc12 pm12 cd12 ct12 oc13 kV13 dc13 pm13 cd13 ct13 oc14 kV14 dc14 pm14 cd14 ct14 oc15 kV15 dc15 pm15 cd15 ct15 oc16 kV16 dc16 pm16 cd16 ct16 oc17 kV17 dc17 pm17 cd17 ct17 oc18 kV18 dc18 pm18 cd18 ct18 oc19 kV19 dc19 pm19 cd19 ct19 oc20 kV20 dc20 pm20 cd20 ct20 : Value}
    (a0 : PySem.W.nsIn K mainGlobals "_law_nails" = some (some (.ref f0))) (l0 : K.lookup f0 = some ⟨oc0, od0, .func (PySem.W.fnOf "_law_nails" "_law_nails" (defArgs s_law_nails) (defBody s_law_nails) (defScope s_law_nails) .none kV0 dc0 pm0 an0 cd0 ct0), sl0⟩) (c0' : PySem.W.codeIn K cd0 "_law_nails" = true) (k0 : PySem.W.keepIn K (.ref f0) = true)
    (a1 : PySem.W.nsIn K mainGlobals "_law_at" = some (some (.ref f1))) (l1 : K.lookup f1 = some ⟨oc1, od1, .func (PySem.W.fnOf "_law_at" "_law_at" (defArgs s_law_at) (defBody s_law_at) (defScope s_law_at) .none kV1 dc1 pm1 an1 cd1 ct1), sl1⟩) (c1' : PySem.W.codeIn K cd1 "_law_at" = true) (k1 : PySem.W.keepIn K (.ref f1) = true)
    (a2 : PySem.W.nsIn K mainGlobals "_law_wide" = some (some (.ref f2))) (l2 : K.lookup f2 = some ⟨oc2, od2, .func (PySem.W.fnOf "_law_wide" "_law_wide" (defArgs s_law_wide) (defBody s_law_wide) (defScope s_law_wide) .none kV2 dc2 pm2 an2 cd2 ct2), sl2⟩) (c2' : PySem.W.codeIn K cd2 "_law_wide" = true) (k2 : PySem.W.keepIn K (.ref f2) = true)
    (a3 : PySem.W.nsIn K mainGlobals "_law_digit" = some (some (.ref f3))) (l3 : K.lookup f3 = some ⟨oc3, od3, .func (PySem.W.fnOf "_law_digit" "_law_digit" (defArgs s_law_digit) (defBody s_law_digit) (defScope s_law_digit) .none kV3 dc3 pm3 an3 cd3 ct3), sl3⟩) (c3' : PySem.W.codeIn K cd3 "_law_digit" = true) (k3 : PySem.W.keepIn K (.ref f3) = true)
    (a4 : PySem.W.nsIn K mainGlobals "_law_mix" = some (some (.ref f4))) (l4 : K.lookup f4 = some ⟨oc4, od4, .func (PySem.W.fnOf "_law_mix" "_law_mix" (defArgs s_law_mix) (defBody s_law_mix) (defScope s_law_mix) .none kV4 dc4 pm4 an4 cd4 ct4), sl4⟩) (c4' : PySem.W.codeIn K cd4 "_law_mix" = true) (k4 : PySem.W.keepIn K (.ref f4) = true)
    (a5 : PySem.W.nsIn K mainGlobals "_law_cord" = some (some (.ref f5))) (l5 : K.lookup f5 = some ⟨oc5, od5, .func (PySem.W.fnOf "_law_cord" "_law_cord" (defArgs s_law_cord) (defBody s_law_cord) (defScope s_law_cord) .none kV5 dc5 pm5 an5 cd5 ct5), sl5⟩) (c5' : PySem.W.codeIn K cd5 "_law_cord" = true) (k5 : PySem.W.keepIn K (.ref f5) = true)
    (a6 : PySem.W.nsIn K mainGlobals "_law_contrary" = some (some (.ref f6))) (l6 : K.lookup f6 = some ⟨oc6, od6, .func (PySem.W.fnOf "_law_contrary" "_law_contrary" (defArgs s_law_contrary) (defBody s_law_contrary) (defScope s_law_contrary) .none kV6 dc6 pm6 an6 cd6 ct6), sl6⟩) (c6' : PySem.W.codeIn K cd6 "_law_contrary" = true) (k6 : PySem.W.keepIn K (.ref f6) = true)
    (a7 : PySem.W.nsIn K mainGlobals "_law_short" = some (some (.ref f7))) (l7 : K.lookup f7 = some ⟨oc7, od7, .func (PySem.W.fnOf "_law_short" "_law_short" (defArgs s_law_short) (defBody s_law_short) (defScope s_law_short) .none kV7 dc7 pm7 an7 cd7 ct7), sl7⟩) (c7' : PySem.W.codeIn K cd7 "_law_short" = true) (k7 : PySem.W.keepIn K (.ref f7) = true)
    (a8 : PySem.W.nsIn K mainGlobals "_law_powered" = some (some (.ref f8))) (l8 : K.lookup f8 = some ⟨oc8, od8, .func (PySem.W.fnOf "_law_powered" "_law_powered" (defArgs s_law_powered) (defBody s_law_powered) (defScope s_law_powered) .none kV8 dc8 pm8 an8 cd8 ct8), sl8⟩) (c8' : PySem.W.codeIn K cd8 "_law_powered" = true) (k8 : PySem.W.keepIn K (.ref f8) = true)
    (a9 : PySem.W.nsIn K mainGlobals "put_behind" = some (some (.ref f9))) (l9 : K.lookup f9 = some ⟨oc9, od9, .func (PySem.W.fnOf "put_behind" "put_behind" (defArgs s_put_behind) (defBody s_put_behind) (defScope s_put_behind) .none kV9 dc9 pm9 an9 cd9 ct9), sl9⟩) (c9' : PySem.W.codeIn K cd9 "put_behind" = true) (k9 : PySem.W.keepIn K (.ref f9) = true)
    (a10 : PySem.W.nsIn K mainGlobals "short_form" = some (some (.ref f10))) (l10 : K.lookup f10 = some ⟨oc10, od10, .func (PySem.W.fnOf "short_form" "short_form" (defArgs s_short_form) (defBody s_short_form) (defScope s_short_form) .none kV10 dc10 pm10 an10 cd10 ct10), sl10⟩) (c10' : PySem.W.codeIn K cd10 "short_form" = true) (k10 : PySem.W.keepIn K (.ref f10) = true)
    (a11 : PySem.W.nsIn K mainGlobals "loosened" = some (some (.ref f11))) (l11 : K.lookup f11 = some ⟨oc11, od11, .func (PySem.W.fnOf "loosened" "loosened" (defArgs s_loosened) (defBody s_loosened) (defScope s_loosened) .none kV11 dc11 pm11 an11 cd11 ct11), sl11⟩) (c11' : PySem.W.codeIn K cd11 "loosened" = true) (k11 : PySem.W.keepIn K (.ref f11) = true)
    (a12 : PySem.W.nsIn K mainGlobals "repeated" = some (some (.ref f12))) (l12 : K.lookup f12 = some ⟨oc12, od12, .func (PySem.W.fnOf "repeated" "repeated" (defArgs s_repeated) (defBody s_repeated) (defScope s_repeated) .none kV12 dc12 pm12 an12 cd12 ct12), sl12⟩) (c12' : PySem.W.codeIn K cd12 "repeated" = true) (k12 : PySem.W.keepIn K (.ref f12) = true)
    (a13 : PySem.W.nsIn K mainGlobals "contrary" = some (some (.ref f13))) (l13 : K.lookup f13 = some ⟨oc13, od13, .func (PySem.W.fnOf "contrary" "contrary" (defArgs s_contrary) (defBody s_contrary) (defScope s_contrary) .none kV13 dc13 pm13 an13 cd13 ct13), sl13⟩) (c13' : PySem.W.codeIn K cd13 "contrary" = true) (k13 : PySem.W.keepIn K (.ref f13) = true)
    (a14 : PySem.W.nsIn K mainGlobals "root_of" = some (some (.ref f14))) (l14 : K.lookup f14 = some ⟨oc14, od14, .func (PySem.W.fnOf "root_of" "root_of" (defArgs s_root_of) (defBody s_root_of) (defScope s_root_of) .none kV14 dc14 pm14 an14 cd14 ct14), sl14⟩) (c14' : PySem.W.codeIn K cd14 "root_of" = true) (k14 : PySem.W.keepIn K (.ref f14) = true)
    (a15 : PySem.W.nsIn K mainGlobals "common_root" = some (some (.ref f15))) (l15 : K.lookup f15 = some ⟨oc15, od15, .func (PySem.W.fnOf "common_root" "common_root" (defArgs s_common_root) (defBody s_common_root) (defScope s_common_root) .none kV15 dc15 pm15 an15 cd15 ct15), sl15⟩) (c15' : PySem.W.codeIn K cd15 "common_root" = true) (k15 : PySem.W.keepIn K (.ref f15) = true)
    (a16 : PySem.W.nsIn K mainGlobals "_law_is_short" = some (some (.ref f16))) (l16 : K.lookup f16 = some ⟨oc16, od16, .func (PySem.W.fnOf "_law_is_short" "_law_is_short" (defArgs s_law_is_short) (defBody s_law_is_short) (defScope s_law_is_short) .none kV16 dc16 pm16 an16 cd16 ct16), sl16⟩) (c16' : PySem.W.codeIn K cd16 "_law_is_short" = true) (k16 : PySem.W.keepIn K (.ref f16) = true)
    (a17 : PySem.W.nsIn K mainGlobals "_law_whole" = some (some (.ref f17))) (l17 : K.lookup f17 = some ⟨oc17, od17, .func (PySem.W.fnOf "_law_whole" "_law_whole" (defArgs s_law_whole) (defBody s_law_whole) (defScope s_law_whole) .none kV17 dc17 pm17 an17 cd17 ct17), sl17⟩) (c17' : PySem.W.codeIn K cd17 "_law_whole" = true) (k17 : PySem.W.keepIn K (.ref f17) = true)
    (a18 : PySem.W.nsIn K mainGlobals "_law_often" = some (some (.ref f18))) (l18 : K.lookup f18 = some ⟨oc18, od18, .func (PySem.W.fnOf "_law_often" "_law_often" (defArgs s_law_often) (defBody s_law_often) (defScope s_law_often) .none kV18 dc18 pm18 an18 cd18 ct18), sl18⟩) (c18' : PySem.W.codeIn K cd18 "_law_often" = true) (k18 : PySem.W.keepIn K (.ref f18) = true)
    (a19 : PySem.W.nsIn K mainGlobals "_law_shared" = some (some (.ref f19))) (l19 : K.lookup f19 = some ⟨oc19, od19, .func (PySem.W.fnOf "_law_shared" "_law_shared" (defArgs s_law_shared) (defBody s_law_shared) (defScope s_law_shared) .none kV19 dc19 pm19 an19 cd19 ct19), sl19⟩) (c19' : PySem.W.codeIn K cd19 "_law_shared" = true) (k19 : PySem.W.keepIn K (.ref f19) = true)
    (a20 : PySem.W.nsIn K mainGlobals "law" = some (some (.ref f20))) (l20 : K.lookup f20 = some ⟨oc20, od20, .func (PySem.W.fnOf "law" "law" (defArgs s_law) (defBody s_law) (defScope s_law) .none kV20 dc20 pm20 an20 cd20 ct20), sl20⟩) (c20' : PySem.W.codeIn K cd20 "law" = true) (k20 : PySem.W.keepIn K (.ref f20) = true)
    (z_abs : PySem.W.nsIn K mainGlobals "abs" = some none)
    (z_bool : PySem.W.nsIn K mainGlobals "bool" = some none)
    (z_int : PySem.W.nsIn K mainGlobals "int" = some none)
    (z_isinstance : PySem.W.nsIn K mainGlobals "isinstance" = some none)
    (z_len : PySem.W.nsIn K mainGlobals "len" = some none)
    (z_list : PySem.W.nsIn K mainGlobals "list" = some none)
    (z_range : PySem.W.nsIn K mainGlobals "range" = some none)
    (z_reversed : PySem.W.nsIn K mainGlobals "reversed" = some none)
    (z_str : PySem.W.nsIn K mainGlobals "str" = some none)
    (z_tuple : PySem.W.nsIn K mainGlobals "tuple" = some none)
    : ∃ fd : FuncData, (∀ (s : Shared) (v : Value), BindsTo s fd ⟨[v], []⟩ [("_law_script", v)]) ∧ ∀ base : Heap, K.In base → base.Ns mainGlobals mg → FnOk l.prog w K mg base (L2.CX l.prog w) 7 fl fd ["_law_script"] (@spOf ⟨K⟩ mg SP_law) := by
  have e := hfl.symm.trans (PySem.W.mg_of X G a20)
  cases e
  have F0 := fun_mk (st := s_law_nails) l0 c0' k0
  have b0 := F0.binds (ps := ["_law_cell"]) fun _ _ _ _ _ _ us hl => match us, hl with | [_], _ => rfl
  have F1 := fun_mk (st := s_law_at) l1 c1' k1
  have b1 := F1.binds (ps := ["_law_script", "_law_k"]) fun _ _ _ _ _ _ us hl => match us, hl with | [_, _], _ => rfl
  have F2 := fun_mk (st := s_law_wide) l2 c2' k2
  have b2 := F2.binds (ps := ["_law_cell"]) fun _ _ _ _ _ _ us hl => match us, hl with | [_], _ => rfl
  have F3 := fun_mk (st := s_law_digit) l3 c3' k3
  have b3 := F3.binds (ps := ["_law_rest", "_law_m"]) fun _ _ _ _ _ _ us hl => match us, hl with | [_, _], _ => rfl
  have F4 := fun_mk (st := s_law_mix) l4 c4' k4
  have b4 := F4.binds (ps := ["_law_cell", "_law_k"]) fun _ _ _ _ _ _ us hl => match us, hl with | [_, _], _ => rfl
  have F5 := fun_mk (st := s_law_cord) l5 c5' k5
  have b5 := F5.binds (ps := ["_law_cell", "_law_nails_here", "_law_wide_here", "_law_most"]) fun _ _ _ _ _ _ us hl => match us, hl with | [_, _, _, _], _ => rfl
  have F6 := fun_mk (st := s_law_contrary) l6 c6' k6
  have b6 := F6.binds (ps := ["_law_cord_here"]) fun _ _ _ _ _ _ us hl => match us, hl with | [_], _ => rfl
  have F7 := fun_mk (st := s_law_short) l7 c7' k7
  have b7 := F7.binds (ps := ["_law_cord_here"]) fun _ _ _ _ _ _ us hl => match us, hl with | [_], _ => rfl
  have F8 := fun_mk (st := s_law_powered) l8 c8' k8
  have b8 := F8.binds (ps := ["_law_root", "_law_times"]) fun _ _ _ _ _ _ us hl => match us, hl with | [_, _], _ => rfl
  have F9 := fun_mk (st := s_put_behind) l9 c9' k9
  have b9 := F9.binds (ps := ["runs", "nail", "turns"]) fun _ _ _ _ _ _ us hl => match us, hl with | [_, _, _], _ => rfl
  have F10 := fun_mk (st := s_short_form) l10 c10' k10
  have b10 := F10.binds (ps := ["cord"]) fun _ _ _ _ _ _ us hl => match us, hl with | [_], _ => rfl
  have F11 := fun_mk (st := s_loosened) l11 c11' k11
  have b11 := F11.binds (ps := ["cord"]) fun _ _ _ _ _ _ us hl => match us, hl with | [_], _ => rfl
  have F12 := fun_mk (st := s_repeated) l12 c12' k12
  have b12 := F12.binds (ps := ["runs"]) fun _ _ _ _ _ _ us hl => match us, hl with | [_], _ => rfl
  have F13 := fun_mk (st := s_contrary) l13 c13' k13
  have b13 := F13.binds (ps := ["cord"]) fun _ _ _ _ _ _ us hl => match us, hl with | [_], _ => rfl
  have F14 := fun_mk (st := s_root_of) l14 c14' k14
  have b14 := F14.binds (ps := ["cord"]) fun _ _ _ _ _ _ us hl => match us, hl with | [_], _ => rfl
  have F15 := fun_mk (st := s_common_root) l15 c15' k15
  have b15 := F15.binds (ps := ["one", "other"]) fun _ _ _ _ _ _ us hl => match us, hl with | [_, _], _ => rfl
  have F16 := fun_mk (st := s_law_is_short) l16 c16' k16
  have b16 := F16.binds (ps := ["_law_found"]) fun _ _ _ _ _ _ us hl => match us, hl with | [_], _ => rfl
  have F17 := fun_mk (st := s_law_whole) l17 c17' k17
  have b17 := F17.binds (ps := ["_law_found"]) fun _ _ _ _ _ _ us hl => match us, hl with | [_], _ => rfl
  have F18 := fun_mk (st := s_law_often) l18 c18' k18
  have b18 := F18.binds (ps := ["_law_cord_here"]) fun _ _ _ _ _ _ us hl => match us, hl with | [_], _ => rfl
  have F19 := fun_mk (st := s_law_shared) l19 c19' k19
  have b19 := F19.binds (ps := ["_law_one", "_law_other"]) fun _ _ _ _ _ _ us hl => match us, hl with | [_, _], _ => rfl
  have F20 := fun_mk (st := s_law) l20 c20' k20
  have b20 := F20.binds (ps := ["_law_script"]) fun _ _ _ _ _ _ us hl => match us, hl with | [_], _ => rfl
  let fa : Nat → Addr := fun i => [f0, f1, f2, f3, f4, f5, f6, f7, f8, f9, f10, f11, f12, f13, f14, f15, f16, f17, f18, f19, fl].getD i 0
  let fd : Nat → FuncData := fun i => [PySem.W.fnOf "_law_nails" "_law_nails" (defArgs s_law_nails) (defBody s_law_nails) (defScope s_law_nails) .none kV0 dc0 pm0 an0 cd0 ct0, PySem.W.fnOf "_law_at" "_law_at" (defArgs s_law_at) (defBody s_law_at) (defScope s_law_at) .none kV1 dc1 pm1 an1 cd1 ct1, PySem.W.fnOf "_law_wide" "_law_wide" (defArgs s_law_wide) (defBody s_law_wide) (defScope s_law_wide) .none kV2 dc2 pm2 an2 cd2 ct2, PySem.W.fnOf "_law_digit" "_law_digit" (defArgs s_law_digit) (defBody s_law_digit) (defScope s_law_digit) .none kV3 dc3 pm3 an3 cd3 ct3, PySem.W.fnOf "_law_mix" "_law_mix" (defArgs s_law_mix) (defBody s_law_mix) (defScope s_law_mix) .none kV4 dc4 pm4 an4 cd4 ct4, PySem.W.fnOf "_law_cord" "_law_cord" (defArgs s_law_cord) (defBody s_law_cord) (defScope s_law_cord) .none kV5 dc5 pm5 an5 cd5 ct5, PySem.W.fnOf "_law_contrary" "_law_contrary" (defArgs s_law_contrary) (defBody s_law_contrary) (defScope s_law_contrary) .none kV6 dc6 pm6 an6 cd6 ct6, PySem.W.fnOf "_law_short" "_law_short" (defArgs s_law_short) (defBody s_law_short) (defScope s_law_short) .none kV7 dc7 pm7 an7 cd7 ct7, PySem.W.fnOf "_law_powered" "_law_powered" (defArgs s_law_powered) (defBody s_law_powered) (defScope s_law_powered) .none kV8 dc8 pm8 an8 cd8 ct8, PySem.W.fnOf "put_behind" "put_behind" (defArgs s_put_behind) (defBody s_put_behind) (defScope s_put_behind) .none kV9 dc9 pm9 an9 cd9 ct9, PySem.W.fnOf "short_form" "short_form" (defArgs s_short_form) (defBody s_short_form) (defScope s_short_form) .none kV10 dc10 pm10 an10 cd10 ct10, PySem.W.fnOf "loosened" "loosened" (defArgs s_loosened) (defBody s_loosened) (defScope s_loosened) .none kV11 dc11 pm11 an11 cd11 ct11, PySem.W.fnOf "repeated" "repeated" (defArgs s_repeated) (defBody s_repeated) (defScope s_repeated) .none kV12 dc12 pm12 an12 cd12 ct12, PySem.W.fnOf "contrary" "contrary" (defArgs s_contrary) (defBody s_contrary) (defScope s_contrary) .none kV13 dc13 pm13 an13 cd13 ct13, PySem.W.fnOf "root_of" "root_of" (defArgs s_root_of) (defBody s_root_of) (defScope s_root_of) .none kV14 dc14 pm14 an14 cd14 ct14, PySem.W.fnOf "common_root" "common_root" (defArgs s_common_root) (defBody s_common_root) (defScope s_common_root) .none kV15 dc15 pm15 an15 cd15 ct15, PySem.W.fnOf "_law_is_short" "_law_is_short" (defArgs s_law_is_short) (defBody s_law_is_short) (defScope s_law_is_short) .none kV16 dc16 pm16 an16 cd16 ct16, PySem.W.fnOf "_law_whole" "_law_whole" (defArgs s_law_whole) (defBody s_law_whole) (defScope s_law_whole) .none kV17 dc17 pm17 an17 cd17 ct17, PySem.W.fnOf "_law_often" "_law_often" (defArgs s_law_often) (defBody s_law_often) (defScope s_law_often) .none kV18 dc18 pm18 an18 cd18 ct18, PySem.W.fnOf "_law_shared" "_law_shared" (defArgs s_law_shared) (defBody s_law_shared) (defScope s_law_shared) .none kV19 dc19 pm19 an19 cd19 ct19, PySem.W.fnOf "law" "law" (defArgs s_law) (defBody s_law) (defScope s_law) .none kV20 dc20 pm20 an20 cd20 ct20].getD i (PySem.W.fnOf "law" "law" (defArgs s_law) (defBody s_law) (defScope s_law) .none kV20 dc20 pm20 an20 cd20 ct20)
  let ca : Nat → Addr := fun i => [].getD i 0
  have T : Txt K mg fa fd ca := ⟨PySem.W.mg_none_of X G z_abs, PySem.W.mg_none_of X G z_bool, PySem.W.mg_none_of X G z_int, PySem.W.mg_none_of X G z_isinstance, PySem.W.mg_none_of X G z_len, PySem.W.mg_none_of X G z_list, PySem.W.mg_none_of X G z_range, PySem.W.mg_none_of X G z_reversed, PySem.W.mg_none_of X G z_str, PySem.W.mg_none_of X G z_tuple, PySem.W.mg_of X G a0, F0, b0, PySem.W.mg_of X G a1, F1, b1, PySem.W.mg_of X G a2, F2, b2, PySem.W.mg_of X G a3, F3, b3, PySem.W.mg_of X G a4, F4, b4, PySem.W.mg_of X G a5, F5, b5, PySem.W.mg_of X G a6, F6, b6, PySem.W.mg_of X G a7, F7, b7, PySem.W.mg_of X G a8, F8, b8, PySem.W.mg_of X G a9, F9, b9, PySem.W.mg_of X G a10, F10, b10, PySem.W.mg_of X G a11, F11, b11, PySem.W.mg_of X G a12, F12, b12, PySem.W.mg_of X G a13, F13, b13, PySem.W.mg_of X G a14, F14, b14, PySem.W.mg_of X G a15, F15, b15, PySem.W.mg_of X G a16, F16, b16, PySem.W.mg_of X G a17, F17, b17, PySem.W.mg_of X G a18, F18, b18, PySem.W.mg_of X G a19, F19, b19, PySem.W.mg_of X G a20, F20, b20⟩
  exact ⟨PySem.W.fnOf "law" "law" (defArgs s_law) (defBody s_law) (defScope s_law) .none kV20 dc20 pm20 an20 cd20 ct20, fun s v => .of_eq rfl, fun base _ _ => ok_law T⟩
end NL
open PySem PySem.W PyProof.Rows
set_option maxHeartbeats 0 in
theorem PySem.Challenge.cw_nailhang_k27_whole_change_places_holds : PySem.Challenge.rw_nailhang_k27_whole_change_places.Holds := by
  w_on; o_law; k_head; (case hw => w_witness2)
  k_fill
  refine L2.walk_of (l := PySem.Challenge.rw_nailhang_k27_whole_change_places) (n := 63) (k := 7) (x := "_law_script") (CX := fun w => L2.CX PySem.Challenge.rw_nailhang_k27_whole_change_places.prog w) (sp := fun w => NL.spLaw _) rfl (by decide) rfl ⟨rfl, by decide, by decide⟩ (fun w h Y => PySem.W.kIn_of Y) ?F (fun _ _ a ns hl hO hS => NL.law_in hl hS) (fun _ _ _ _ _ h => NL.law_cx h)
  case F =>
    intro w mg fa h KX G hmg
    refine' NL.law_F (NL.all_mk KX G hmg ?a0 ?l0 ?c0p ?k0 ?a1 ?l1 ?c1p ?k1 ?a2 ?l2 ?c2p ?k2 ?a3 ?l3 ?c3p ?k3 ?a4 ?l4 ?c4p ?k4 ?a5 ?l5 ?c5p ?k5 ?a6 ?l6 ?c6p ?k6 ?a7 ?l7 ?c7p ?k7 ?a8 ?l8 ?c8p ?k8 ?a9 ?l9 ?c9p ?k9 ?a10 ?l10 ?c10p ?k10 ?a11 ?l11 ?c11p ?k11 ?a12 ?l12 ?c12p ?k12 ?a13 ?l13 ?c13p ?k13 ?a14 ?l14 ?c14p ?k14 ?a15 ?l15 ?c15p ?k15 ?a16 ?l16 ?c16p ?k16 ?a17 ?l17 ?c17p ?k17 ?a18 ?l18 ?c18p ?k18 ?a19 ?l19 ?c19p ?k19 ?a20 ?l20 ?c20p ?k20 ?z_abs ?z_bool ?z_int ?z_isinstance ?z_len ?z_list ?z_range ?z_reversed ?z_str ?z_tuple)
    (case a0 => k_is)
    (case l0 => k_is)
    (case c0p => k_is)
    (case k0 => k_is)
    (case a1 => k_is)
    (case l1 => k_is)
    (case c1p => k_is)
    (case k1 => k_is)
    (case a2 => k_is)
    (case l2 => k_is)
    (case c2p => k_is)
    (case k2 => k_is)
    (case a3 => k_is)
    (case l3 => k_is)
    (case c3p => k_is)
    (case k3 => k_is)
    (case a4 => k_is)
    (case l4 => k_is)
    (case c4p => k_is)
    (case k4 => k_is)
    (case a5 => k_is)
    (case l5 => k_is)
    (case c5p => k_is)
    (case k5 => k_is)
    (case a6 => k_is)
    (case l6 => k_is)
    (case c6p => k_is)
    (case k6 => k_is)
    (case a7 => k_is)
    (case l7 => k_is)
    (case c7p => k_is)
    (case k7 => k_is)
    (case a8 => k_is)
    (case l8 => k_is)
    (case c8p => k_is)
    (case k8 => k_is)
    (case a9 => k_is)
    (case l9 => k_is)
    (case c9p => k_is)
    (case k9 => k_is)
    (case a10 => k_is)
    (case l10 => k_is)
    (case c10p => k_is)
    (case k10 => k_is)
    (case a11 => k_is)
    (case l11 => k_is)
    (case c11p => k_is)
    (case k11 => k_is)
    (case a12 => k_is)
    (case l12 => k_is)
    (case c12p => k_is)
    (case k12 => k_is)
    (case a13 => k_is)
    (case l13 => k_is)
    (case c13p => k_is)
    (case k13 => k_is)
    (case a14 => k_is)
    (case l14 => k_is)
    (case c14p => k_is)
    (case k14 => k_is)
    (case a15 => k_is)
    (case l15 => k_is)
    (case c15p => k_is)
    (case k15 => k_is)
    (case a16 => k_is)
    (case l16 => k_is)
    (case c16p => k_is)
    (case k16 => k_is)
    (case a17 => k_is)
    (case l17 => k_is)
    (case c17p => k_is)
    (case k17 => k_is)
    (case a18 => k_is)
    (case l18 => k_is)
    (case c18p => k_is)
    (case k18 => k_is)
    (case a19 => k_is)
    (case l19 => k_is)
    (case c19p => k_is)
    (case k19 => k_is)
    (case a20 => k_is)
    (case l20 => k_is)
    (case c20p => k_is)
    (case k20 => k_is)
    (case z_abs => k_is)
    (case z_bool => k_is)
    (case z_int => k_is)
    (case z_isinstance => k_is)
    (case z_len => k_is)
    (case z_list => k_is)
    (case z_range => k_is)
    (case z_reversed => k_is)
    (case z_str => k_is)
    (case z_tuple => k_is)
#print axioms PySem.Challenge.cw_nailhang_k27_whole_change_places_holds
