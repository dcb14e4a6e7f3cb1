import PyProof.Rows.All
import HandS.ForMost
import HandS.ForExc
import HandS.Wide
import HandS.IsInst
import HandS.Flow
import HandS.Lambda
import HandS.Style
import HandS.ExcCtx
import KE.SortKeyHeap
import HandS.Set
import HandS.SetFor
import HandS.SortKw
import KE.DatumOrd
import HandS.SetTxt0
import HandS.TupLe
import KE.KSortKey
import HandS.Replace
import HandS.Text
import PySem.Challenge.RW_nailhang_k34_meeting_twice
set_option Elab.async false
set_option linter.all false
set_option maxRecDepth 100000
set_option maxHeartbeats 2000000
/-! Data over the hand layer: what an expression tells as data, with no heap in sight. -/
namespace NL
open PySem PySem.Spec L2
open PyProof.Rows hiding St

/-- the written part; the tables of code objects; the own classes -/
class KC where
  K : PySem.W.Frag
  T : List (Addr × Str)
  ca : Str → Addr
variable [KC]
inductive D where
  | non | bl (b : Bool) | int (i : Int) | str (s : Str) | lst (xs : List D) | tup (xs : List D) | dct (ks : List Key) (xs : List D) | ref (a : Addr) | scr (ns : List Int) | dkz (ks : List Key) (xs : List D) | obj (c : Str) (fs : List Str) (xs : List D)

mutual
def Dat (S : Hp) : D → V → Prop
  | .non, v => v = .non
  | .bl b, v => v = .bl b
  | .int i, v => v = .int i
  | .str s, v => v = .str s
  | .lst xs, v => ∃ a vs, v = .ref a ∧ S a = some (.lst vs) ∧ Dats S xs vs
  | .tup xs, v => ∃ a vs, v = .ref a ∧ S a = some (.tup vs) ∧ Dats S xs vs
  | .dct ks xs, v => ∃ a kvs, v = .ref a ∧ S a = some (.dK kvs) ∧ kvs.map (·.1) = ks ∧ Dats S xs (kvs.map (·.2))
  | .dkz ks xs, v => ∃ a o kvs, v = .ref a ∧ S a = some (.frz o (.dK kvs)) ∧ kvs.map (·.1) = ks ∧ Dats S xs (kvs.map (·.2))
  | .obj c fs xs, v => ∃ a dx kvs, v = .ref a ∧ S a = some (.ins (KC.ca c) dx kvs) ∧ kvs.map (·.1) = fs ∧ Dats S xs (kvs.map (·.2))
  | .ref a, v => v = .ref a
  | .scr ns, v => ∃ a, v = .ref a ∧ SqL KC.K S a (ns.map V.int)
def Dats (S : Hp) : List D → List V → Prop
  | [], vs => vs = []
  | x :: xs, vs => ∃ v r, vs = v :: r ∧ Dat S x v ∧ Dats S xs r
end

theorem same_rd {S T : Hp} {a : Addr} {u : HO} (e : Same S T) (h : Rd S a u) : Rd T a u := by
  rcases h with h | ⟨o, h⟩
  · exact .inl (e _ _ h)
  · exact .inr ⟨o, e _ _ h⟩
mutual
theorem Dat.mono {S T : Hp} (e : Same S T) : ∀ (d : D) (v : V), Dat S d v → Dat T d v
  | .non, _, h => h
  | .bl _, _, h => h
  | .int _, _, h => h
  | .str _, _, h => h
  | .ref _, _, h => h
  | .scr ns, v, h => by
    unfold Dat at h ⊢
    obtain ⟨a, h1, h2⟩ := h
    exact ⟨a, h1, e.seq h2⟩
  | .lst xs, v, h => by
    unfold Dat at h ⊢
    obtain ⟨a, vs, h1, h2, h3⟩ := h
    exact ⟨a, vs, h1, e _ _ h2, Dats.mono e xs vs h3⟩
  | .tup xs, v, h => by
    unfold Dat at h ⊢
    obtain ⟨a, vs, h1, h2, h3⟩ := h
    exact ⟨a, vs, h1, e _ _ h2, Dats.mono e xs vs h3⟩
  | .dct ks xs, v, h => by
    unfold Dat at h ⊢
    obtain ⟨a, kvs, h1, h2, h3, h4⟩ := h
    exact ⟨a, kvs, h1, e _ _ h2, h3, Dats.mono e xs _ h4⟩
  | .dkz ks xs, v, h => by
    unfold Dat at h ⊢
    obtain ⟨a, o, kvs, h1, h2, h3, h4⟩ := h
    exact ⟨a, o, kvs, h1, e _ _ h2, h3, Dats.mono e xs _ h4⟩
  | .obj c fs xs, v, h => by
    unfold Dat at h ⊢
    obtain ⟨a, dx, kvs, h1, h2, h3, h4⟩ := h
    exact ⟨a, dx, kvs, h1, e _ _ h2, h3, Dats.mono e xs _ h4⟩
theorem Dats.mono {S T : Hp} (e : Same S T) : ∀ (xs : List D) (vs : List V), Dats S xs vs → Dats T xs vs
  | [], _, h => h
  | x :: xs, vs, h => by
    unfold Dats at h ⊢
    obtain ⟨v, r, h1, h2, h3⟩ := h
    exact ⟨v, r, h1, Dat.mono e x v h2, Dats.mono e xs r h3⟩
end
section
variable {S T : Hp}
theorem Dats.len : ∀ {xs : List D} {vs : List V}, Dats S xs vs → vs.length = xs.length
  | [], _, h => by unfold Dats at h; subst h; rfl
  | x :: xs, vs, h => by
    unfold Dats at h
    obtain ⟨v, r, rfl, _, h3⟩ := h
    simp only [List.length_cons, h3.len]
theorem Dats.cons {x : D} {xs : List D} {v : V} {vs : List V} (h : Dat S x v) (r : Dats S xs vs) : Dats S (x :: xs) (v :: vs) := by
  unfold Dats
  exact ⟨v, vs, rfl, h, r⟩
theorem Dats.nil : Dats S [] [] := by unfold Dats; rfl
theorem Dats.app : ∀ {xs ys : List D} {vs ws : List V}, Dats S xs vs → Dats S ys ws → Dats S (xs ++ ys) (vs ++ ws)
  | [], _, _, _, h, g => by unfold Dats at h; subst h; exact g
  | x :: xs, ys, vs, ws, h, g => by
    unfold Dats at h
    obtain ⟨v, r, rfl, h2, h3⟩ := h
    exact .cons h2 (h3.app g)
theorem Dats.one {x : D} {v : V} (h : Dat S x v) : Dats S [x] [v] := .cons h .nil
theorem Dats.take : ∀ (n : Nat) {xs : List D} {vs : List V}, Dats S xs vs → Dats S (xs.take n) (vs.take n)
  | 0, xs, vs, _ => by simp; exact .nil
  | n + 1, [], vs, h => by unfold Dats at h; subst h; simp; exact .nil
  | n + 1, x :: xs, vs, h => by
    unfold Dats at h
    obtain ⟨v, r, rfl, h2, h3⟩ := h
    simp only [List.take_succ_cons]
    exact .cons h2 (h3.take n)
theorem Dats.drop : ∀ (n : Nat) {xs : List D} {vs : List V}, Dats S xs vs → Dats S (xs.drop n) (vs.drop n)
  | 0, xs, vs, h => h
  | n + 1, [], vs, h => by unfold Dats at h; subst h; simp; exact .nil
  | n + 1, x :: xs, vs, h => by
    unfold Dats at h
    obtain ⟨v, r, rfl, h2, h3⟩ := h
    simp only [List.drop_succ_cons]
    exact h3.drop n
theorem Dats.get : ∀ {xs : List D} {vs : List V} {i : Nat} {x : D}, Dats S xs vs → xs[i]? = some x → ∃ v, vs[i]? = some v ∧ Dat S x v
  | [], _, i, x, _, e => by simp at e
  | x :: xs, vs, 0, y, h, e => by
    unfold Dats at h
    obtain ⟨v, r, rfl, h2, h3⟩ := h
    simp at e
    subst e
    exact ⟨v, rfl, h2⟩
  | x :: xs, vs, i + 1, y, h, e => by
    unfold Dats at h
    obtain ⟨v, r, rfl, h2, h3⟩ := h
    simp at e ⊢
    exact h3.get e
theorem Dats.getV : ∀ {xs : List D} {vs : List V} {i : Nat} {v : V}, Dats S xs vs → vs[i]? = some v → ∃ x, xs[i]? = some x ∧ Dat S x v
  | [], _, i, x, h, e => by unfold Dats at h; subst h; simp at e
  | x :: xs, vs, 0, y, h, e => by
    unfold Dats at h
    obtain ⟨v, r, rfl, h2, h3⟩ := h
    simp at e
    subst e
    exact ⟨x, rfl, h2⟩
  | x :: xs, vs, i + 1, y, h, e => by
    unfold Dats at h
    obtain ⟨v, r, rfl, h2, h3⟩ := h
    simp at e ⊢
    exact h3.getV e
theorem Dats.set : ∀ {xs : List D} {vs : List V} (i : Nat) {x : D} {v : V}, Dats S xs vs → Dat S x v → Dats S (xs.set i x) (vs.set i v)
  | [], _, i, x, v, h, g => by unfold Dats at h; subst h; simp; exact .nil
  | y :: xs, vs, 0, x, v, h, g => by
    unfold Dats at h
    obtain ⟨v', r, rfl, h2, h3⟩ := h
    exact .cons g h3
  | y :: xs, vs, i + 1, x, v, h, g => by
    unfold Dats at h
    obtain ⟨v', r, rfl, h2, h3⟩ := h
    exact .cons h2 (h3.set i g)
theorem Dats.dropLast {xs : List D} {vs : List V} (h : Dats S xs vs) : Dats S xs.dropLast vs.dropLast := by
  rw [List.dropLast_eq_take, List.dropLast_eq_take, h.len]
  exact h.take _
theorem Dats.rev : ∀ {xs : List D} {vs : List V}, Dats S xs vs → Dats S xs.reverse vs.reverse
  | [], _, h => by unfold Dats at h; subst h; exact .nil
  | x :: xs, vs, h => by
    unfold Dats at h
    obtain ⟨v, r, rfl, h2, h3⟩ := h
    simp only [List.reverse_cons]
    exact h3.rev.app (.one h2)
theorem Dats.rep {xs : List D} {vs : List V} (h : Dats S xs vs) : ∀ n, Dats S (List.replicate n xs).flatten (List.replicate n vs).flatten
  | 0 => .nil
  | n + 1 => by
    simp only [List.replicate_succ, List.flatten_cons]
    exact h.app (h.rep n)
theorem Dats.ins : ∀ {xs : List D} {vs : List V} (i : Nat) {x : D} {v : V}, Dats S xs vs → Dat S x v → Dats S (xs.insertIdx i x) (vs.insertIdx i v)
  | xs, vs, 0, x, v, h, g => by simp; exact .cons g h
  | [], vs, i + 1, x, v, h, g => by unfold Dats at h; subst h; simp; exact .nil
  | y :: xs, vs, i + 1, x, v, h, g => by
    unfold Dats at h
    obtain ⟨v', r, rfl, h2, h3⟩ := h
    simp only [List.insertIdx_succ_cons]
    exact .cons h2 (h3.ins i g)
theorem Dats.ints : ∀ (ns : List Int), Dats S (ns.map D.int) (ns.map V.int)
  | [] => .nil
  | n :: ns => .cons (by unfold Dat; rfl) (Dats.ints ns)
theorem Dats.ofInts : ∀ {ns : List Int} {vs : List V}, Dats S (ns.map D.int) vs → vs = ns.map V.int
  | [], vs, h => by unfold Dats at h; exact h
  | n :: ns, vs, h => by
    unfold Dats at h
    obtain ⟨v, r, rfl, h2, h3⟩ := h
    unfold Dat at h2
    subst h2
    simp only [List.map_cons, Dats.ofInts h3]
theorem Dats.ofStrs : ∀ {ns : List Str} {vs : List V}, Dats S (ns.map D.str) vs → vs = ns.map V.str
  | [], vs, h => by unfold Dats at h; exact h
  | n :: ns, vs, h => by
    unfold Dats at h
    obtain ⟨v, r, rfl, h2, h3⟩ := h
    unfold Dat at h2
    subst h2
    simp only [List.map_cons, Dats.ofStrs h3]
theorem Dats.strs : ∀ (ns : List Str), Dats S (ns.map D.str) (ns.map V.str)
  | [] => .nil
  | n :: ns => .cons (by unfold Dat; rfl) (Dats.strs ns)
theorem Dats.ofBls : ∀ {ns : List Bool} {vs : List V}, Dats S (ns.map D.bl) vs → vs = ns.map V.bl
  | [], vs, h => by unfold Dats at h; exact h
  | n :: ns, vs, h => by
    unfold Dats at h
    obtain ⟨v, r, rfl, h2, h3⟩ := h
    unfold Dat at h2
    subst h2
    simp only [List.map_cons, Dats.ofBls h3]
end

/-! ### what is owned by a slot -/
inductive Cn where
  | lst (xs : List D) | dct (ks : List Key) (xs : List D) | obj (c : Str) (fs : List Str) (xs : List D)
def Cn.d : Cn → D
  | .lst xs => .lst xs
  | .dct ks xs => .dct ks xs
  | .obj c fs xs => .obj c fs xs
def CnOk (S : Hp) : Cn → HO → Prop
  | .lst xs, o => ∃ vs, o = .lst vs ∧ Dats S xs vs
  | .dct ks xs, o => ∃ kvs, o = .dK kvs ∧ kvs.map (·.1) = ks ∧ Dats S xs (kvs.map (·.2))
  | .obj c fs xs, o => ∃ dx kvs, o = .ins (KC.ca c) dx kvs ∧ kvs.map (·.1) = fs ∧ Dats S xs (kvs.map (·.2))
theorem CnOk.mono {S T : Hp} (e : Same S T) : ∀ {c : Cn} {o : HO}, CnOk S c o → CnOk T c o
  | .lst xs, o, ⟨vs, h1, h2⟩ => ⟨vs, h1, Dats.mono e _ _ h2⟩
  | .dct ks xs, o, ⟨vs, h1, h2, h3⟩ => ⟨vs, h1, h2, Dats.mono e _ _ h3⟩
  | .obj c fs xs, o, ⟨dx, vs, h1, h2, h3⟩ => ⟨dx, vs, h1, h2, Dats.mono e _ _ h3⟩
theorem CnOk.dat {S : Hp} {a : Addr} {o : HO} (h : S a = some o) : ∀ {c : Cn}, CnOk S c o → Dat S c.d (.ref a)
  | .lst xs, ⟨vs, h1, h2⟩ => by
    subst h1
    show Dat S (.lst xs) _
    unfold Dat
    exact ⟨a, vs, rfl, h, h2⟩
  | .dct ks xs, ⟨vs, h1, h2, h3⟩ => by
    subst h1
    show Dat S (.dct ks xs) _
    unfold Dat
    exact ⟨a, vs, rfl, h, h2, h3⟩
  | .obj c fs xs, ⟨dx, vs, h1, h2, h3⟩ => by
    subst h1
    show Dat S (.obj c fs xs) _
    unfold Dat
    exact ⟨a, dx, vs, rfl, h, h2, h3⟩
theorem CnOk.ntb {S : Hp} {o : HO} : ∀ {c : Cn}, CnOk S c o → (∀ ps, o ≠ .tbl ps) ∧ ∀ φ, o ≠ .ext φ
  | .lst xs, ⟨vs, h1, _⟩ => by subst h1; exact ⟨(fun _ z => by cases z), (fun _ z => by cases z)⟩
  | .dct ks xs, ⟨vs, h1, _⟩ => by subst h1; exact ⟨(fun _ z => by cases z), (fun _ z => by cases z)⟩
  | .obj c fs xs, ⟨dx, vs, h1, _⟩ => by subst h1; exact ⟨(fun _ z => by cases z), (fun _ z => by cases z)⟩

inductive Sl where
  | un | fz (d : D) | own (m : Bool) (c : Cn)
abbrev Ev := List Sl
abbrev XS := Str → Prop

/-- a def's frame: the heap and the shared data at its entry; what it may change -/
structure Fr where
  H0 : Hp
  S0 : Hp
  M : Addr → Prop

/-- all stays but the tables of code objects, which grow -/
structure ExtT (H H' : Hp) : Prop where
  keep : ∀ b o, H b = some o → (∀ ps, o ≠ .tbl ps) → H' b = some o
  ne : ∀ b, H b ≠ none → H' b ≠ none
  tab : ∀ P q, (P, q) ∈ KC.T → LamX.TabS H P q → LamX.TabS H' P q
theorem same_ne {H H' : Hp} (e : Same H H') {a : Addr} (h : H a ≠ none) : H' a ≠ none := by
  cases q : H a with
  | none => exact absurd q h
  | some o => rw [e a o q]; intro z; cases z
theorem ExtT.of {H H' : Hp} (e : Same H H') : ExtT H H' := ⟨fun b o h _ => e b o h, fun b h => same_ne e h, fun _ _ _ h => h.ext e⟩
theorem ExtT.refl {H : Hp} : ExtT H H := .of (.refl _)
theorem ExtT.trans {H H1 H2 : Hp} (a : ExtT H H1) (b : ExtT H1 H2) : ExtT H H2 := ⟨fun c o h n => b.keep c o (a.keep c o h n) n, fun c h => b.ne c (a.ne c h), fun P q m h => b.tab P q m (a.tab P q m h)⟩
theorem ExtT.free {H H' : Hp} (e : ExtT H H') {a : Addr} (h : H' a = none) : H a = none := by
  cases q : H a with
  | none => rfl
  | some o => exact absurd h (e.ne a (by rw [q]; intro z; cases z))
theorem ExtT.lst {H H' : Hp} (e : ExtT H H') {a : Addr} {xs : List V} (h : H a = some (.lst xs)) : H' a = some (.lst xs) := e.keep a _ h (fun _ z => by cases z)
theorem ExtT.dK {H H' : Hp} (e : ExtT H H') {a : Addr} {xs : List (Key × V)} (h : H a = some (.dK xs)) : H' a = some (.dK xs) := e.keep a _ h (fun _ z => by cases z)
theorem ExtT.ins {H H' : Hp} (e : ExtT H H') {a C dx : Addr} {xs : List (Str × V)} (h : H a = some (.ins C dx xs)) : H' a = some (.ins C dx xs) := e.keep a _ h (fun _ z => by cases z)
theorem ExtT.cn {H H' S : Hp} (e : ExtT H H') {a : Addr} {o : HO} {c : Cn} (h : H a = some o) (k : CnOk S c o) : H' a = some o := e.keep a _ h k.ntb.1
/-- a thing that is neither a table nor a code object is written -/
theorem ExtT.put {H : Hp} {p : Addr} {o o' : HO} (h : H p = some o) (n1 : ∀ ps, o ≠ .tbl ps) (n2 : ∀ φ, o ≠ .ext φ) : (∀ b, H b ≠ none → upd H p o' b ≠ none) ∧ ∀ P q, LamX.TabS H P q → LamX.TabS (upd H p o') P q := by
  refine ⟨fun b hb => ?_, fun P q ⟨ps, h1, h2, h3⟩ => ⟨ps, ?_, h2, fun pos cv hc => ?_⟩⟩
  · by_cases z : b = p
    · subst z; rw [upd_same]; intro z; cases z
    · rw [upd_ne z]; exact hb
  · rw [upd_ne (fun z => n1 ps (by rw [z, h] at h1; exact Option.some.inj h1))]
    exact h1
  · obtain ⟨c, e1, e2⟩ := h3 pos cv hc
    refine ⟨c, e1, ?_⟩
    rw [upd_ne (fun z => n2 _ (by rw [z, h] at e2; exact Option.some.inj e2))]
    exact e2
theorem ExtT.lay {H H' : Hp} (e : ExtT H H') {p : Addr} {o : HO} (h : H' p = none) : ExtT H (upd H' p o) := e.trans (.of fun b x z => by
  rw [upd_ne (ne_of_none z h)]
  exact z)
theorem ExtT.over {H H' : Hp} (e : ExtT H H') {p : Addr} {o o' : HO} (h0 : H p = none) (h : H' p = some o) (n1 : ∀ ps, o ≠ .tbl ps) (n2 : ∀ φ, o ≠ .ext φ) : ExtT H (upd H' p o') := by
  have et := ExtT.put (o' := o') h n1 n2
  refine ⟨fun b x hb n => ?_, fun b hb => et.1 b (e.ne b hb), fun P q m hq => et.2 P q (e.tab P q m hq)⟩
  rw [upd_ne (ne_of_none hb h0)]
  exact e.keep b x hb n
/-- the heap grows, the shared data with it -/
structure Grow (H S H' S' : Hp) : Prop where
  hh : ExtT H H'
  ss : Same S S'
  sh : Same S' H'
  nw : ∀ a, H a ≠ none → S' a = S a
/-- the tables of code objects, none of them shared data -/
def Tbq (S H : Hp) : Prop := LamX.Tabs KC.T H ∧ ∀ p ∈ KC.T, S p.1 = none
theorem tab_ne {H : Hp} {P : Addr} {q : Str} (h : LamX.TabS H P q) : H P ≠ none := by
  obtain ⟨ps, h, _⟩ := h
  rw [h]
  intro z
  cases z
theorem Tbq.grow {H S H1 S1 : Hp} (t : Tbq S H) (g : Grow H S H1 S1) : Tbq S1 H1 := ⟨fun p hp => g.hh.tab _ _ hp (t.1 p hp), fun p hp => (g.nw p.1 (tab_ne (t.1 p hp))).trans (t.2 p hp)⟩
theorem Tbq.frz {H S : Hp} {p : Addr} {o o' : HO} (t : Tbq S H) (h : H p = some o) (n : ∀ ps, o ≠ .tbl ps) : Tbq (upd S p o') H := ⟨t.1, fun x hx => by
  rw [upd_ne (fun z => ?_)]
  · exact t.2 x hx
  · obtain ⟨ps, h2, _⟩ := t.1 x hx
    rw [z, h] at h2
    exact n ps (Option.some.inj h2)⟩
structure FGrow (F : Fr) (H S : Hp) : Prop where
  hh : ∀ a o, ¬ F.M a → F.H0 a = some o → (∀ ps, o ≠ .tbl ps) → H a = some o
  al : ∀ a, F.H0 a ≠ none → H a ≠ none
  ss : Same F.S0 S
  sh : Same S H
  nw : ∀ a, F.H0 a ≠ none → S a = F.S0 a
  ft : ∀ P q, (P, q) ∈ KC.T → LamX.TabS F.H0 P q → LamX.TabS H P q
  tb : Tbq S H
section
variable {F : Fr} {H S H1 S1 H2 S2 : Hp}
theorem Grow.refl (e : Same S H) : Grow H S H S := ⟨.refl, .refl _, e, fun _ _ => rfl⟩
theorem Grow.trans (a : Grow H S H1 S1) (b : Grow H1 S1 H2 S2) : Grow H S H2 S2 :=
  ⟨a.hh.trans b.hh, a.ss.trans b.ss, b.sh, fun x h => (b.nw x (a.hh.ne _ h)).trans (a.nw x h)⟩
theorem FGrow.grow (f : FGrow F H S) (g : Grow H S H1 S1) : FGrow F H1 S1 :=
  ⟨fun a o m h n => g.hh.keep a o (f.hh a o m h n) n, fun a h => g.hh.ne _ (f.al a h), f.ss.trans g.ss, g.sh, fun a h => (g.nw a (f.al a h)).trans (f.nw a h), fun P q m h => g.hh.tab P q m (f.ft P q m h), f.tb.grow g⟩
theorem same_upd {p : Addr} {o : HO} (h : H p = none) : Same H (upd H p o) := fun b x e => by
  rw [upd_ne (ne_of_none e h)]
  exact e
theorem same_upd2 {p : Addr} {o : HO} (e : Same S H) (h : H p = some o) : Same (upd S p o) H := fun b x q => by
  by_cases z : b = p
  · subst z
    rw [upd_same] at q
    rw [h]
    exact q
  · rw [upd_ne z] at q
    exact e b x q
/-- a new thing is laid, not shared -/
theorem Grow.lay {p : Addr} {o : HO} (g : Grow H S H1 S1) (h : H1 p = none) : Grow H S (upd H1 p o) S1 :=
  ⟨g.hh.lay h, g.ss, g.sh.trans (same_upd h), g.nw⟩
/-- a new thing is shared -/
theorem Grow.share {p : Addr} {o : HO} (g : Grow H S H1 S1) (h : H p = none) (h1 : S1 p = none) (h2 : H1 p = some o) : Grow H S H1 (upd S1 p o) :=
  ⟨g.hh, g.ss.trans (same_upd h1), same_upd2 g.sh h2, fun a ha => by
    rw [upd_ne (fun z => ha (by rw [z]; exact h))]
    exact g.nw a ha⟩
theorem Grow.freeS (g : Grow H S H1 S1) {p : Addr} (h : H1 p = none) : S1 p = none := g.sh.free h
theorem Grow.freeH (g : Grow H S H1 S1) {p : Addr} (h : H1 p = none) : H p = none := g.hh.free h
end

/-- what stands at a slot -/
def SlOk (F : Fr) (H S : Hp) : Sl → Option (Option V) → Prop
  | .un, _ => True
  | .fz d, x => ∃ v, x = some (some v) ∧ Dat S d v
  | .own m c, x => ∃ p o, x = some (some (.ref p)) ∧ S p = none ∧ H p = some o ∧ CnOk S c o ∧ (m = true → F.M p) ∧ (m = false → F.H0 p = none)
structure Rep (F : Fr) (ρ : Ev) (σ : St) (H S : Hp) : Prop where
  fg : FGrow F H S
  len : σ.length = ρ.length
  at' : ∀ (i : Nat) (sl : Sl), ρ[i]? = some sl → SlOk F H S sl σ[i]?
  dist : ∀ (i j : Nat) (m m' : Bool) (c c' : Cn), i ≠ j → ρ[i]? = some (.own m c) → ρ[j]? = some (.own m' c') → σ[i]? ≠ σ[j]?
section
variable {F : Fr} {ρ : Ev} {σ : St} {H S H1 S1 : Hp}
theorem Rep.sh (r : Rep F ρ σ H S) : Same S H := r.fg.sh
theorem SlOk.grow (g : Grow H S H1 S1) : ∀ {sl : Sl} {x : Option (Option V)}, SlOk F H S sl x → SlOk F H1 S1 sl x
  | .un, _, _ => trivial
  | .fz d, _, ⟨v, e, h⟩ => ⟨v, e, Dat.mono g.ss d v h⟩
  | .own m c, _, ⟨p, o, e, h1, h2, h3, h4⟩ => ⟨p, o, e, by rw [g.nw p (by rw [h2]; intro z; cases z)]; exact h1, g.hh.cn h2 h3, h3.mono g.ss, h4⟩
theorem Rep.grow (r : Rep F ρ σ H S) (g : Grow H S H1 S1) : Rep F ρ σ H1 S1 :=
  ⟨r.fg.grow g, r.len, fun i sl h => (r.at' i sl h).grow g, r.dist⟩
theorem Rep.fz {i : Nat} {d : D} (r : Rep F ρ σ H S) (h : ρ[i]? = some (.fz d)) : ∃ v, σ[i]? = some (some v) ∧ Dat S d v := r.at' i _ h
theorem Rep.own {i : Nat} {m : Bool} {c : Cn} (r : Rep F ρ σ H S) (h : ρ[i]? = some (.own m c)) :
    ∃ p o, σ[i]? = some (some (.ref p)) ∧ S p = none ∧ H p = some o ∧ CnOk S c o ∧ (m = true → F.M p) ∧ (m = false → F.H0 p = none) := r.at' i _ h
/-- a slot is set to shared data -/
theorem Rep.set {i : Nat} {d : D} {v : V} (r : Rep F ρ σ H S) (h : Dat S d v) : Rep F (ρ.set i (.fz d)) (σ.set i (some v)) H S := by
  refine ⟨r.fg, by simp [r.len], fun j sl e => ?_, fun j k m m' c c' n e1 e2 => ?_⟩
  · by_cases z : i = j
    · subst z
      by_cases hl : i < ρ.length
      · rw [List.getElem?_set_self hl] at e
        cases e
        exact ⟨v, by rw [List.getElem?_set_self (by rw [r.len]; exact hl)], h⟩
      · rw [List.getElem?_eq_none (by simpa using hl)] at e
        cases e
    · rw [List.getElem?_set_ne z] at e ⊢
      exact r.at' j sl e
  · have z1 : i ≠ j := fun z => by
      subst z
      rw [List.getElem?_set] at e1
      simp at e1
    have z2 : i ≠ k := fun z => by
      subst z
      rw [List.getElem?_set] at e2
      simp at e2
    rw [List.getElem?_set_ne z1] at e1 ⊢
    rw [List.getElem?_set_ne z2] at e2 ⊢
    exact r.dist j k m m' c c' n e1 e2
/-- a slot is set to a new thing of its own -/
theorem Rep.setOwn {i : Nat} {c : Cn} {p : Addr} {o : HO} (r : Rep F ρ σ H S) (hS : S p = none) (hH : H p = some o) (hc : CnOk S c o) (h0 : F.H0 p = none)
    (hd : ∀ (j : Nat) (m : Bool) (c' : Cn), ρ[j]? = some (.own m c') → σ[j]? ≠ some (some (.ref p))) : Rep F (ρ.set i (.own false c)) (σ.set i (some (.ref p))) H S := by
  refine ⟨r.fg, by simp [r.len], fun j sl e => ?_, fun j k m m' c1 c2 n e1 e2 => ?_⟩
  · by_cases z : i = j
    · subst z
      by_cases hl : i < ρ.length
      · rw [List.getElem?_set_self hl] at e
        cases e
        exact ⟨p, o, by rw [List.getElem?_set_self (by rw [r.len]; exact hl)], hS, hH, hc, fun z => (by cases z), fun _ => h0⟩
      · rw [List.getElem?_eq_none (by simpa using hl)] at e
        cases e
    · rw [List.getElem?_set_ne z] at e ⊢
      exact r.at' j sl e
  · by_cases z1 : i = j
    · have z2 : i ≠ k := fun z => n (z1.symm.trans z)
      subst z1
      rw [List.getElem?_set_ne z2] at e2 ⊢
      by_cases hl : i < ρ.length
      · rw [List.getElem?_set_self (by rw [r.len]; exact hl)]
        exact fun z => hd k m' c2 e2 z.symm
      · rw [List.getElem?_eq_none (by simpa using hl)] at e1
        cases e1
    · rw [List.getElem?_set_ne z1] at e1 ⊢
      by_cases z2 : i = k
      · subst z2
        by_cases hl : i < ρ.length
        · rw [List.getElem?_set_self (by rw [r.len]; exact hl)]
          exact hd j m c1 e1
        · rw [List.getElem?_eq_none (by simpa using hl)] at e2
          cases e2
      · rw [List.getElem?_set_ne z2] at e2 ⊢
        exact r.dist j k m m' c1 c2 n e1 e2
/-- an owned thing is changed -/
theorem Rep.put {i : Nat} {m : Bool} {c c' : Cn} {p : Addr} {o' : HO} (r : Rep F ρ σ H S) (h : ρ[i]? = some (.own m c)) (hp : σ[i]? = some (some (.ref p))) (hc : CnOk S c' o') :
    Rep F (ρ.set i (.own m c')) σ (upd H p o') S := by
  obtain ⟨p', o1, e1, e2, e3, e4, e5, e6⟩ := r.own h
  have : p' = p := by
    rw [e1] at hp
    cases hp
    rfl
  subst this
  have hl : i < ρ.length := by
    rcases Nat.lt_or_ge i ρ.length with q | q
    · exact q
    · rw [List.getElem?_eq_none q] at h
      cases h
  have et := ExtT.put (o' := o') e3 e4.ntb.1 e4.ntb.2
  refine ⟨⟨fun a u hm ha nt => ?_, fun a ha => ?_, r.fg.ss, fun a u ha => ?_, r.fg.nw, fun P q m h => et.2 P q (r.fg.ft P q m h), ⟨fun P h => et.2 _ _ (r.fg.tb.1 P h), r.fg.tb.2⟩⟩, by simp [r.len], fun j sl e => ?_, fun j k m1 m2 c1 c2 n q1 q2 => ?_⟩
  · have ne : a ≠ p' := fun z => by
      subst z
      cases m with
      | true => exact hm (e5 rfl)
      | false => rw [e6 rfl] at ha; cases ha
    rw [upd_ne ne]
    exact r.fg.hh a u hm ha nt
  · by_cases z : a = p'
    · subst z
      rw [upd_same]
      intro z
      cases z
    · rw [upd_ne z]
      exact r.fg.al a ha
  · rw [upd_ne (fun z => by rw [z, e2] at ha; cases ha)]
    exact r.fg.sh a u ha
  · by_cases z : i = j
    · subst z
      rw [List.getElem?_set_self hl] at e
      cases e
      exact ⟨p', o', hp, e2, upd_same, hc, e5, e6⟩
    · rw [List.getElem?_set_ne z] at e
      have q := r.at' j sl e
      cases sl with
      | un => trivial
      | fz d => exact q
      | own m3 c3 =>
        obtain ⟨p3, o3, f1, f2, f3, f4, f5⟩ := q
        refine ⟨p3, o3, f1, f2, ?_, f4, f5⟩
        rw [upd_ne (fun z3 => r.dist i j m m3 c c3 z h e (by rw [hp, f1, z3]))]
        exact f3
  · have conv : ∀ (l : Nat) (m4 : Bool) (c4 : Cn), (ρ.set i (.own m c'))[l]? = some (.own m4 c4) → ∃ m5 c5, ρ[l]? = some (.own m5 c5) := fun l m4 c4 q => by
      by_cases z : i = l
      · subst z
        exact ⟨m, c, h⟩
      · rw [List.getElem?_set_ne z] at q
        exact ⟨_, _, q⟩
    obtain ⟨_, _, w1⟩ := conv _ _ _ q1
    obtain ⟨_, _, w2⟩ := conv _ _ _ q2
    exact r.dist j k _ _ _ _ n w1 w2
/-- an owned thing is shared from here on -/
theorem Rep.frz {i : Nat} {c : Cn} (r : Rep F ρ σ H S) (h : ρ[i]? = some (.own false c)) : ∃ S', Rep F (ρ.set i (.fz c.d)) σ H S' := by
  obtain ⟨p, o, e1, e2, e3, e4, _, e6⟩ := r.own h
  have h0 := e6 rfl
  have hl : i < ρ.length := by
    rcases Nat.lt_or_ge i ρ.length with q | q
    · exact q
    · rw [List.getElem?_eq_none q] at h
      cases h
  have ss : Same S (upd S p o) := same_upd e2
  refine ⟨upd S p o, ⟨r.fg.hh, r.fg.al, r.fg.ss.trans ss, same_upd2 r.fg.sh e3, fun a ha => ?_, r.fg.ft, r.fg.tb.frz e3 e4.ntb.1⟩, by simp [r.len], fun j sl e => ?_, fun j k m1 m2 c1 c2 n q1 q2 => ?_⟩
  · rw [upd_ne (fun z => ha (by rw [z]; exact h0))]
    exact r.fg.nw a ha
  · by_cases z : i = j
    · subst z
      rw [List.getElem?_set_self hl] at e
      cases e
      exact ⟨.ref p, e1, CnOk.dat upd_same (e4.mono ss)⟩
    · rw [List.getElem?_set_ne z] at e
      have q := r.at' j sl e
      cases sl with
      | un => trivial
      | fz d =>
        obtain ⟨v, f1, f2⟩ := q
        exact ⟨v, f1, Dat.mono ss d v f2⟩
      | own m3 c3 =>
        obtain ⟨p3, o3, f1, f2, f3, f4, f5⟩ := q
        refine ⟨p3, o3, f1, ?_, f3, f4.mono ss, f5⟩
        rw [upd_ne (fun z3 => r.dist i j false m3 c c3 z h e (by rw [e1, f1, z3]))]
        exact f2
  · have conv : ∀ (l : Nat) (m4 : Bool) (c4 : Cn), (ρ.set i (.fz c.d))[l]? = some (.own m4 c4) → ρ[l]? = some (.own m4 c4) := fun l m4 c4 q => by
      by_cases z : i = l
      · subst z
        rw [List.getElem?_set_self hl] at q
        cases q
      · rw [List.getElem?_set_ne z] at q
        exact q
    exact r.dist j k _ _ _ _ n (conv _ _ _ q1) (conv _ _ _ q2)
theorem Rep.unset {i : Nat} {x : Option V} (r : Rep F ρ σ H S) : Rep F (ρ.set i .un) (σ.set i x) H S := by
  refine ⟨r.fg, by simp [r.len], fun j sl e => ?_, fun j k m m' c c' n e1 e2 => ?_⟩
  · by_cases z : i = j
    · subst z
      by_cases hl : i < ρ.length
      · rw [List.getElem?_set_self hl] at e
        cases e
        trivial
      · rw [List.getElem?_eq_none (by simpa using hl)] at e
        cases e
    · rw [List.getElem?_set_ne z] at e ⊢
      exact r.at' j sl e
  · have z1 : i ≠ j := fun z => by
      subst z
      rw [List.getElem?_set] at e1
      simp at e1
    have z2 : i ≠ k := fun z => by
      subst z
      rw [List.getElem?_set] at e2
      simp at e2
    rw [List.getElem?_set_ne z1] at e1 ⊢
    rw [List.getElem?_set_ne z2] at e2 ⊢
    exact r.dist j k m m' c c' n e1 e2
end
end NL

namespace NL
open PySem PySem.Spec L2
open PyProof.Rows hiding St

/-- simp leaves alone what a mark speaks of -/
structure Tg {α : Sort u} (a : α) : Type where
/-- one of two ways -/
def Br (b : Bool) (A B : Prop) (_ : Tg A) (_ : Tg B) : Prop := match b with
  | true => A
  | false => B
theorem Br_true {A B : Prop} {s : Tg A} {t : Tg B} : Br true A B s t = A := rfl
theorem Br_false {A B : Prop} {s : Tg A} {t : Tg B} : Br false A B s t = B := rfl
theorem Br_not {b : Bool} {A B : Prop} {s : Tg A} {t : Tg B} : Br (!b) A B s t = Br b B A t s := by cases b <;> rfl
theorem Br.i {b : Bool} {A B : Prop} {s : Tg A} {t : Tg B} (h1 : b = true → A) (h2 : b = false → B) : Br b A B s t := by
  cases b with
  | true => exact h1 rfl
  | false => exact h2 rfl
theorem Br.d {p : Prop} [Decidable p] {A B : Prop} {s : Tg A} {t : Tg B} (h1 : p → A) (h2 : ¬ p → B) : Br (decide p) A B s t :=
  .i (fun h => h1 (of_decide_eq_true h)) fun h => h2 (of_decide_eq_false h)
theorem Br.t {p : Prop} [Decidable p] {A B : Prop} {s : Tg A} {t : Tg B} (h : p) (h1 : A) : Br (decide p) A B s t := .d (fun _ => h1) fun z => absurd h z
theorem Br.f {p : Prop} [Decidable p] {A B : Prop} {s : Tg A} {t : Tg B} (h : ¬ p) (h1 : B) : Br (decide p) A B s t := .d (fun z => absurd z h) fun _ => h1
variable [KC]
/-! ### what an exception is wished for -/
theorem passN {X : Cx} : Passes (L2N.CX X.prog X.w) X E0 := fun _ _ _ _ _ _ _ h => by
  obtain ⟨_, _, _, _, _, _, _, _, _, _, _, _, z⟩ := h
  exact z.elim
theorem takesN {X : Cx} : L2N.Takes X (fun _ _ _ _ => False) := fun _ _ h => by
  obtain ⟨_, _, _, _, _, _, _, _, _, _, _, _, _, _, _, _, z⟩ := h
  exact z.elim
structure XOk (X : Cx) (E : XK) : Prop where
  pass : Passes (L2N.CX X.prog X.w) X E
  take : L2N.Takes X (fun cls d _ H => E cls d H)
  own : PassesOwn (model X.prog X.w) X.A X.env X.xe
theorem xkb {X : Cx} {s : Shared} {H : Hp} {sc : Scope} {cenv : Env} {fp : List Addr} : XOk (X.blk s H sc cenv fp) E0 := ⟨passN, takesN, PassesOwn.never⟩
def ExOk (mg : Str → Option Value) (E : XK) (x : XS) (H S : Hp) : Prop := ∀ n C H' S', x n → mg n = some (.ref C) → Grow H S H' S' → E (.ref C) none H'
theorem ExOk.grow {mg : Str → Option Value} {E : XK} {x : XS} {H S H1 S1 : Hp} (h : ExOk mg E x H S) (g : Grow H S H1 S1) : ExOk mg E x H1 S1 :=
  fun n C H' S' a b c => h n C H' S' a b (g.trans c)

/-! ### data that is read: the thing itself may be owned by a slot -/
def BDat (H S : Hp) : D → V → Prop
  | .lst xs, v => ∃ a vs, v = .ref a ∧ H a = some (.lst vs) ∧ Dats S xs vs
  | .dct ks xs, v => ∃ a kvs, v = .ref a ∧ H a = some (.dK kvs) ∧ kvs.map (·.1) = ks ∧ Dats S xs (kvs.map (·.2))
  | .obj c fs xs, v => ∃ a dx kvs, v = .ref a ∧ H a = some (.ins (KC.ca c) dx kvs) ∧ kvs.map (·.1) = fs ∧ Dats S xs (kvs.map (·.2))
  | d, v => Dat S d v
section
variable {H S H1 S1 : Hp}
theorem BDat.of (sh : Same S H) : ∀ {d : D} {v : V}, Dat S d v → BDat H S d v
  | .lst xs, v, h => by
    unfold Dat at h
    obtain ⟨a, vs, e, r, q⟩ := h
    exact ⟨a, vs, e, sh _ _ r, q⟩
  | .dct ks xs, v, h => by
    unfold Dat at h
    obtain ⟨a, vs, e, r, q, z⟩ := h
    exact ⟨a, vs, e, sh _ _ r, q, z⟩
  | .dkz _ _, _, h => h
  | .obj c fs xs, v, h => by
    unfold Dat at h
    obtain ⟨a, o, vs, e, r, q, z⟩ := h
    exact ⟨a, o, vs, e, sh _ _ r, q, z⟩
  | .non, _, h => h
  | .bl _, _, h => h
  | .int _, _, h => h
  | .str _, _, h => h
  | .ref _, _, h => h
  | .scr _, _, h => h
  | .tup _, _, h => h
theorem BDat.full (sh : Same S H) : ∀ {d : D} {v : V}, BDat H S d v → Dat H d v
  | .lst xs, v, ⟨a, vs, e, r, q⟩ => by
    unfold Dat
    exact ⟨a, vs, e, r, Dats.mono sh _ _ q⟩
  | .dct ks xs, v, ⟨a, vs, e, r, q, z⟩ => by
    unfold Dat
    exact ⟨a, vs, e, r, q, Dats.mono sh _ _ z⟩
  | .dkz ks xs, v, h => Dat.mono sh (.dkz ks xs) v h
  | .obj c fs xs, v, ⟨a, dx, vs, e, r, q, z⟩ => by
    unfold Dat
    exact ⟨a, dx, vs, e, r, q, Dats.mono sh _ _ z⟩
  | .non, _, h => h
  | .bl _, _, h => h
  | .int _, _, h => h
  | .str _, _, h => h
  | .ref _, _, h => h
  | .scr ns, v, h => Dat.mono sh (.scr ns) v h
  | .tup xs, v, h => Dat.mono sh (.tup xs) v h
theorem BDat.grow (g : Grow H S H1 S1) : ∀ {d : D} {v : V}, BDat H S d v → BDat H1 S1 d v
  | .lst xs, v, ⟨a, vs, e, r, q⟩ => ⟨a, vs, e, g.hh.lst r, Dats.mono g.ss _ _ q⟩
  | .dct ks xs, v, ⟨a, vs, e, r, q, z⟩ => ⟨a, vs, e, g.hh.dK r, q, Dats.mono g.ss _ _ z⟩
  | .dkz ks xs, v, h => Dat.mono g.ss (.dkz ks xs) v h
  | .obj c fs xs, v, ⟨a, dx, vs, e, r, q, z⟩ => ⟨a, dx, vs, e, g.hh.ins r, q, Dats.mono g.ss _ _ z⟩
  | .non, _, h => h
  | .bl _, _, h => h
  | .int _, _, h => h
  | .str _, _, h => h
  | .ref _, _, h => h
  | .scr ns, v, h => Dat.mono g.ss (.scr ns) v h
  | .tup xs, v, h => Dat.mono g.ss (.tup xs) v h
end

abbrev WE := XS → Ev → (D → Prop) → Prop
abbrev WL := XS → Ev → (List D → Prop) → Prop
abbrev WT := XS → Ev → (Bool → Prop) → Prop

/-- an expression that tells shared data -/
structure ED (X : Cx) (E : XK) (e : Expr) (w : WE) : Prop where
  ex : ∃ t, PE X e t ∧ ∀ (x : XS) (ρ : Ev) (Q : D → Prop), w x ρ Q → ∀ (F : Fr) (σ : L2.St) (H S : Hp) (Q' : VK), Rep F ρ σ H S → ExOk X.mg E x H S →
    (∀ d v H' S', Q d → Grow H S H' S' → Dat S' d v → Q' v H') → t σ H Q'
/-- .. data to be read -/
structure BD (X : Cx) (E : XK) (e : Expr) (w : WE) : Prop where
  ex : ∃ t, PE X e t ∧ ∀ (x : XS) (ρ : Ev) (Q : D → Prop), w x ρ Q → ∀ (F : Fr) (σ : L2.St) (H S : Hp) (Q' : VK), Rep F ρ σ H S → ExOk X.mg E x H S →
    (∀ d v H' S', Q d → Grow H S H' S' → BDat H' S' d v → Q' v H') → t σ H Q'
/-- .. a new list, nobody else's -/
structure DF (X : Cx) (E : XK) (e : Expr) (w : WL) : Prop where
  ex : ∃ t, PE X e t ∧ ∀ (x : XS) (ρ : Ev) (Q : List D → Prop), w x ρ Q → ∀ (F : Fr) (σ : L2.St) (H S : Hp) (Q' : VK), Rep F ρ σ H S → ExOk X.mg E x H S →
    (∀ xs p vs H' S', Q xs → Grow H S H' S' → H p = none → S' p = none → H' p = some (.lst vs) → Dats S' xs vs → Q' (.ref p) H') → t σ H Q'
/-- a test -/
structure TD (X : Cx) (E : XK) (e : Expr) (w : WT) : Prop where
  ex : ∃ t, PT X e t ∧ ∀ (x : XS) (ρ : Ev) (Q : Bool → Prop), w x ρ Q → ∀ (F : Fr) (σ : L2.St) (H S : Hp) (Q' : Bool → Hp → Prop), Rep F ρ σ H S → ExOk X.mg E x H S →
    (∀ b H' S', Q b → Grow H S H' S' → Q' b H') → t σ H Q'
structure WD (X : Cx) (E : XK) (e : Expr) (w : WT) : Prop where
  ex : ∃ t, PW X e t ∧ ∀ (x : XS) (ρ : Ev) (Q : Bool → Prop), w x ρ Q → ∀ (F : Fr) (σ : L2.St) (H S : Hp) (Q' : Bool → Hp → Prop), Rep F ρ σ H S → ExOk X.mg E x H S →
    (∀ b H' S', Q b → Grow H S H' S' → Q' b H') → t σ H Q'
/-- arguments, shared -/
structure AD (X : Cx) (E : XK) (es : List Expr) (w : WL) : Prop where
  ex : ∃ t, PA X es t ∧ ∀ (x : XS) (ρ : Ev) (Q : List D → Prop), w x ρ Q → ∀ (F : Fr) (σ : L2.St) (H S : Hp) (Q' : List V → Hp → Prop), Rep F ρ σ H S → ExOk X.mg E x H S →
    (∀ ds vs H' S', Q ds → Grow H S H' S' → Dats S' ds vs → Q' vs H') → t σ H Q'
/-- data read, side by side -/
def BDats (H S : Hp) : List D → List V → Prop
  | [], vs => vs = []
  | d :: ds, vs => ∃ v r, vs = v :: r ∧ BDat H S d v ∧ BDats H S ds r
theorem BDats.grow {H S H1 S1 : Hp} (g : Grow H S H1 S1) : ∀ {ds : List D} {vs : List V}, BDats H S ds vs → BDats H1 S1 ds vs
  | [], _, h => h
  | d :: ds, vs, ⟨v, r, e, h, q⟩ => ⟨v, r, e, h.grow g, BDats.grow g q⟩
theorem BDats.of {H S : Hp} (sh : Same S H) : ∀ {ds : List D} {vs : List V}, Dats S ds vs → BDats H S ds vs
  | [], _, h => by unfold Dats at h; exact h
  | d :: ds, vs, h => by
    unfold Dats at h
    obtain ⟨v, r, e, h, q⟩ := h
    exact ⟨v, r, e, BDat.of sh h, BDats.of sh q⟩
/-- arguments, read -/
structure AB (X : Cx) (E : XK) (es : List Expr) (w : WL) : Prop where
  ex : ∃ t, PA X es t ∧ ∀ (x : XS) (ρ : Ev) (Q : List D → Prop), w x ρ Q → ∀ (F : Fr) (σ : L2.St) (H S : Hp) (Q' : List V → Hp → Prop), Rep F ρ σ H S → ExOk X.mg E x H S →
    (∀ ds vs H' S', Q ds → Grow H S H' S' → BDats H' S' ds vs → Q' vs H') → t σ H Q'

section
variable {X : Cx} {E : XK} {e a b : Expr} {es : List Expr} {pos : Pos} {w wa wb : WE} {wl : WL}

/-! ### from one kind to another -/
theorem bd (h : ED X E e w) : BD X E e w := by
  obtain ⟨t, p, s⟩ := h.ex
  exact ⟨t, p, fun x ρ Q hw F σ H S Q' r ex k => s x ρ Q hw F σ H S Q' r ex fun d v H' S' q g hd => k d v H' S' q g (BDat.of g.sh hd)⟩
/-- a new list is shared at once -/
def wNew (wl : WL) : WE := fun x ρ Q => wl x ρ fun xs => Q (.lst xs)
theorem ed_new (h : DF X E e wl) : ED X E e (wNew wl) := by
  obtain ⟨t, p, s⟩ := h.ex
  refine ⟨t, p, fun x ρ Q hw F σ H S Q' r ex k => s x ρ _ hw F σ H S Q' r ex fun xs p vs H' S' q g h0 h1 h2 hd => ?_⟩
  refine k _ _ H' (upd S' p (.lst vs)) q (g.share h0 h1 h2) ?_
  unfold Dat
  exact ⟨p, vs, rfl, upd_same, Dats.mono (same_upd h1) _ _ hd⟩
theorem bd_new (h : DF X E e wl) : BD X E e (wNew wl) := bd (ed_new h)

/-! ### names and constants -/
def wVar (i : Nat) : WE := fun _ ρ Q => match ρ[i]? with
  | some (.fz d) => Q d
  | _ => False
theorem ed_var (i : Nat) {x : Str} (hN : X.N[i]? = some x := by rfl) (hv : Vis X.env.scope x := by first | exact Or.inl rfl | exact Or.inr (Or.inl rfl) | exact Or.inr (Or.inr rfl)) (hd : (x == ("__debug__" : Str)) = false := by decide)
    (hcd : (x == ("__classdict__" : Str)) = false := by decide) : ED X E (.Name x pos) (wVar i) := by
  refine ⟨_, pe_var hN hv hd hcd, fun x ρ Q hw F σ H S Q' r ex k => ?_⟩
  unfold wVar at hw
  split at hw
  · rename_i d hi
    obtain ⟨v, e, h⟩ := r.fz hi
    exact ⟨v, e, k d v H S hw (.refl r.sh) h⟩
  · exact hw.elim
/-- a slot's own thing, read -/
def wOwn (i : Nat) : WE := fun _ ρ Q => match ρ[i]? with
  | some (.own _ c) => Q c.d
  | some (.fz d) => Q d
  | _ => False
theorem bd_own (i : Nat) {x : Str} (hN : X.N[i]? = some x := by rfl) (hv : Vis X.env.scope x := by first | exact Or.inl rfl | exact Or.inr (Or.inl rfl) | exact Or.inr (Or.inr rfl)) (hd : (x == ("__debug__" : Str)) = false := by decide)
    (hcd : (x == ("__classdict__" : Str)) = false := by decide) : BD X E (.Name x pos) (wOwn i) := by
  refine ⟨_, pe_var hN hv hd hcd, fun x ρ Q hw F σ H S Q' r ex k => ?_⟩
  unfold wOwn at hw
  split at hw
  · rename_i m c hi
    obtain ⟨p, o, e, h1, h2, h3, _⟩ := r.own hi
    refine ⟨.ref p, e, k c.d _ H S hw (.refl r.sh) ?_⟩
    cases c with
    | lst xs =>
      obtain ⟨vs, rfl, q⟩ := h3
      exact ⟨p, vs, rfl, h2, q⟩
    | dct ks xs =>
      obtain ⟨vs, rfl, q, q2⟩ := h3
      exact ⟨p, vs, rfl, h2, q, q2⟩
    | obj c fs xs =>
      obtain ⟨dx, vs, rfl, q, q2⟩ := h3
      exact ⟨p, dx, vs, rfl, h2, q, q2⟩
  · rename_i d hi
    obtain ⟨v, e, h⟩ := r.fz hi
    exact ⟨v, e, k d v H S hw (.refl r.sh) (BDat.of r.sh h)⟩
  · exact hw.elim
def wC (d : D) : WE := fun _ _ Q => Q d
theorem ed_int {i j} : ED X E (.Constant (.int i) j pos) (wC (.int i)) :=
  ⟨_, pe_int, fun x ρ Q hw F σ H S Q' r ex k => k _ _ H S hw (.refl r.sh) (by unfold Dat; rfl)⟩
theorem ed_bl {i j} : ED X E (.Constant (.bool i) j pos) (wC (.bl i)) :=
  ⟨_, pe_bl, fun x ρ Q hw F σ H S Q' r ex k => k _ _ H S hw (.refl r.sh) (by unfold Dat; rfl)⟩
theorem ed_non {j} : ED X E (.Constant .none j pos) (wC .non) :=
  ⟨_, pe_non, fun x ρ Q hw F σ H S Q' r ex k => k _ _ H S hw (.refl r.sh) (by unfold Dat; rfl)⟩
theorem ed_str {i j} : ED X E (.Constant (.str i) j pos) (wC (.str i)) :=
  ⟨_, pe_str, fun x ρ Q hw F σ H S Q' r ex k => k _ _ H S hw (.refl r.sh) (by unfold Dat; rfl)⟩
/-- a constant text of the module -/
theorem ed_glob {x : Str} {u : Value} {d : D} {v : V} (hg : Gl X x) (hm : X.mg x = some u) (r : RelV v u) (hd : ∀ S, Dat S d v) (hdb : (x == ("__debug__" : Str)) = false := by decide) : ED X E (.Name x pos) (wC d) :=
  ⟨_, pe_glob hg hm r hdb, fun x ρ Q hw F σ H S Q' r ex k => k _ _ H S hw (.refl r.sh) (hd S)⟩

/-! ### operators -/
structure OpD (X : Cx) (f : Value → Value → Sem Value) (g : D → D → (D → Prop) → Prop) : Prop where
  ex : ∃ r : R2, OpR X f r ∧ ∀ (d e : D) (Q : D → Prop), g d e Q → ∀ (H S : Hp) (u v : V) (Q' : VK), Same S H → BDat H S d u → BDat H S e v → (∀ z y H' S', Q z → Grow H S H' S' → Dat S' z y → Q' y H') → r u v H Q'
def wOp (g : D → D → (D → Prop) → Prop) (wa wb : WE) : WE := fun x ρ Q => wa x ρ fun d => wb x ρ fun e => g d e Q
theorem op_sound {f : Value → Value → Sem Value} {g : D → D → (D → Prop) → Prop} (ho : OpD X f g) (ha : BD X E a wa) (hb : BD X E b wb) : ∃ r ta tb, OpR X f r ∧ PE X a ta ∧ PE X b tb ∧
    ∀ (x : XS) (ρ : Ev) (Q : D → Prop), wOp g wa wb x ρ Q → ∀ (F : Fr) (σ : L2.St) (H S : Hp) (Q' : VK), Rep F ρ σ H S → ExOk X.mg E x H S →
    (∀ d v H' S', Q d → Grow H S H' S' → Dat S' d v → Q' v H') → tOp r ta tb σ H Q' := by
  obtain ⟨r, o, so⟩ := ho.ex
  obtain ⟨ta, pa, sa⟩ := ha.ex
  obtain ⟨tb, pb, sb⟩ := hb.ex
  refine ⟨r, ta, tb, o, pa, pb, fun x ρ Q hw F σ H S Q' rp ex k => ?_⟩
  refine sa x ρ _ hw F σ H S _ rp ex fun d u H1 S1 q1 g1 h1 => ?_
  refine sb x ρ _ q1 F σ H1 S1 _ (rp.grow g1) (ex.grow g1) fun e v H2 S2 q2 g2 h2 => ?_
  exact so d e Q q2 H2 S2 u v Q' g2.sh (h1.grow g2) h2 fun z y H3 S3 q3 g3 h3 => k z y H3 S3 q3 ((g1.trans g2).trans g3) h3
theorem ed_op {op : Operator} {g : D → D → (D → Prop) → Prop} (ho : OpD X (binaryOp op) g) (ha : BD X E a wa) (hb : BD X E b wb) : ED X E (.BinOp a op b pos) (wOp g wa wb) := by
  obtain ⟨r, ta, tb, o, pa, pb, s⟩ := op_sound ho ha hb
  exact ⟨_, pe_op o pa pb, s⟩
theorem ed_cmp {op : CmpOp} {g : D → D → (D → Prop) → Prop} (ho : OpD X (compareOp op) g) (ha : BD X E a wa) (hb : BD X E b wb) (hm : behindInMarks op b = false := by first | exact nomark _ | with_unfolding_all rfl) : ED X E (.Compare a [op] [b] pos) (wOp g wa wb) := by
  obtain ⟨r, ta, tb, o, pa, pb, s⟩ := op_sound ho ha hb
  exact ⟨_, pe_cmpR o pa pb hm, s⟩
/-- the truth that a comparison tells -/
def onBl (Q : Bool → Prop) : D → Prop
  | .bl k => Q k
  | _ => False
theorem onBl_sound {Q : Bool → Prop} {d : D} {S : Hp} {v : V} (h : onBl Q d) (hd : Dat S d v) : ∃ k, v = .bl k ∧ Q k := by
  cases d with
  | bl k => unfold Dat at hd; exact ⟨k, hd, h⟩
  | _ => exact h.elim
def wtOn (w : WE) : WT := fun x ρ Q => w x ρ (onBl Q)
theorem td_cmp {op : CmpOp} {g : D → D → (D → Prop) → Prop} (ho : OpD X (compareOp op) g) (ha : BD X E a wa) (hb : BD X E b wb) (hm : behindInMarks op b = false := by first | exact nomark _ | with_unfolding_all rfl) :
    TD X E (.Compare a [op] [b] pos) (wtOn (wOp g wa wb)) := by
  obtain ⟨r, ta, tb, o, pa, pb, s⟩ := op_sound ho ha hb
  refine ⟨_, pt_cmpR o pa pb hm, fun x ρ Q hw F σ H S Q' rp ex k => ?_⟩
  refine s x ρ _ hw F σ H S _ rp ex fun d v H' S' q g hd => ?_
  obtain ⟨b, rfl, q⟩ := onBl_sound q hd
  exact ⟨b, rfl, k b H' S' q g⟩
def wChain (g g' : D → D → (D → Prop) → Prop) (wa wb wc : WE) : WE := fun x ρ Q => wa x ρ fun d => wb x ρ fun e => g d e (onBl fun k => Br k (wc x ρ fun f => g' e f Q) (Q (.bl false)) ⟨⟩ ⟨⟩)
theorem chain_sound {c : Expr} {wc : WE} {f f' : Value → Value → Sem Value} {g g' : D → D → (D → Prop) → Prop} (ho : OpD X f g) (ho' : OpD X f' g') (ha : BD X E a wa) (hb : BD X E b wb) (hc : BD X E c wc) :
    ∃ r r' ta tb tc, OpR X f r ∧ OpR X f' r' ∧ PE X a ta ∧ PE X b tb ∧ PE X c tc ∧ ∀ (x : XS) (ρ : Ev) (Q : D → Prop), wChain g g' wa wb wc x ρ Q → ∀ (F : Fr) (σ : L2.St) (H S : Hp) (Q' : VK), Rep F ρ σ H S → ExOk X.mg E x H S →
    (∀ d v H' S', Q d → Grow H S H' S' → Dat S' d v → Q' v H') → tChain r r' ta tb tc σ H Q' := by
  obtain ⟨r, o, so⟩ := ho.ex
  obtain ⟨r', o', so'⟩ := ho'.ex
  obtain ⟨ta, pa, sa⟩ := ha.ex
  obtain ⟨tb, pb, sb⟩ := hb.ex
  obtain ⟨tc, pc, sc⟩ := hc.ex
  refine ⟨r, r', ta, tb, tc, o, o', pa, pb, pc, fun x ρ Q hw F σ H S Q' rp ex k => ?_⟩
  refine sa x ρ _ hw F σ H S _ rp ex fun d u H1 S1 q1 g1 h1 => ?_
  refine sb x ρ _ q1 F σ H1 S1 _ (rp.grow g1) (ex.grow g1) fun e v H2 S2 q2 g2 h2 => ?_
  refine so d e _ q2 H2 S2 u v _ g2.sh (h1.grow g2) h2 fun z y H3 S3 q3 g3 h3 => ?_
  obtain ⟨kb, rfl, q3⟩ := onBl_sound q3 h3
  refine ⟨kb, rfl, ?_⟩
  have g13 := (g1.trans g2).trans g3
  cases kb with
  | false => exact iteF (k _ _ H3 S3 q3 g13 (by unfold Dat; rfl))
  | true =>
    refine iteT (sc x ρ _ q3 F σ H3 S3 _ (rp.grow g13) (ex.grow g13) fun z y H4 S4 q4 g4 h4 => ?_)
    exact so' e z Q q4 H4 S4 v y Q' g4.sh ((h2.grow g3).grow g4) h4 fun z y H5 S5 q5 g5 h5 => k z y H5 S5 q5 ((g13.trans g4).trans g5) h5
theorem ed_chain {c : Expr} {wc : WE} {op op' : CmpOp} {g g' : D → D → (D → Prop) → Prop} (ho : OpD X (compareOp op) g) (ho' : OpD X (compareOp op') g') (ha : BD X E a wa) (hb : BD X E b wb) (hc : BD X E c wc)
    (hm : lastMarks [op, op'] [b, c] = false := by with_unfolding_all rfl) : ED X E (.Compare a [op, op'] [b, c] pos) (wChain g g' wa wb wc) := by
  obtain ⟨r, r', ta, tb, tc, o, o', pa, pb, pc, s⟩ := chain_sound ho ho' ha hb hc
  exact ⟨_, pe_chain o o' pa pb pc hm, s⟩
theorem td_chain {c : Expr} {wc : WE} {op op' : CmpOp} {g g' : D → D → (D → Prop) → Prop} (ho : OpD X (compareOp op) g) (ho' : OpD X (compareOp op') g') (ha : BD X E a wa) (hb : BD X E b wb) (hc : BD X E c wc)
    (hm : lastMarks [op, op'] [b, c] = false := by with_unfolding_all rfl) : TD X E (.Compare a [op, op'] [b, c] pos) (wtOn (wChain g g' wa wb wc)) := by
  obtain ⟨r, r', ta, tb, tc, o, o', pa, pb, pc, s⟩ := chain_sound ho ho' ha hb hc
  refine ⟨_, pt_chain o o' pa pb pc hm, fun x ρ Q hw F σ H S Q' rp ex k => ?_⟩
  refine s x ρ _ hw F σ H S _ rp ex fun d v H' S' q g hd => ?_
  obtain ⟨b, rfl, q⟩ := onBl_sound q hd
  exact ⟨b, rfl, k b H' S' q g⟩

/-! ### truth -/
def trD : D → (Bool → Prop) → Prop
  | .non, Q => Q false
  | .bl b, Q => Q b
  | .int i, Q => Q (i != 0)
  | .str s, Q => s.length ≤ sizeLine ∧ Q ((s.length : Int) != 0)
  | .lst xs, Q => Q (!xs.isEmpty)
  | .tup xs, Q => Q (!xs.isEmpty)
  | _, _ => False
theorem Dats.emp {S : Hp} {xs : List D} {vs : List V} (h : Dats S xs vs) : vs.isEmpty = xs.isEmpty := by
  have := h.len
  cases xs <;> cases vs <;> simp_all
theorem trD_sound {K : PySem.W.Frag} {H S : Hp} {d : D} {v : V} {Q : Bool → Prop} (sh : Same S H) (hb : BDat H S d v) (h : trD d Q) : ∃ k, TruV K v H k ∧ Q k := by
  cases d with
  | non => simp only [BDat, Dat] at hb; subst hb; exact ⟨_, rfl, h⟩
  | bl b => simp only [BDat, Dat] at hb; subst hb; exact ⟨_, rfl, h⟩
  | int i => simp only [BDat, Dat] at hb; subst hb; exact ⟨_, rfl, h⟩
  | str s => simp only [BDat, Dat] at hb; subst hb; exact ⟨_, ⟨h.1, rfl⟩, h.2⟩
  | lst xs =>
    obtain ⟨a, vs, rfl, r, q⟩ := hb
    exact ⟨_, .inl ⟨vs, .of r, rfl⟩, by rw [q.emp]; exact h⟩
  | tup xs =>
    simp only [BDat, Dat] at hb
    obtain ⟨a, vs, rfl, r, q⟩ := hb
    exact ⟨_, .inr (.inl ⟨vs, .of (sh _ _ r), rfl⟩), by rw [q.emp]; exact h⟩
  | dct _ _ => exact h.elim
  | obj _ _ _ => exact h.elim
  | dkz _ _ => exact h.elim
  | ref _ => exact h.elim
  | scr _ => exact h.elim
def wtVal (wa : WE) : WT := fun x ρ Q => wa x ρ fun d => trD d Q
theorem td_val (ha : BD X E a wa) (he : ∀ whole, isTrue a X.env whole = (do let v ← whole; standAt a.pos; holding [v] (truthy v)) := by intro _; rfl) : TD X E a (wtVal wa) := by
  obtain ⟨ta, pa, sa⟩ := ha.ex
  refine ⟨_, pt_truth pa he, fun x ρ Q hw F σ H S Q' rp ex k => ?_⟩
  refine sa x ρ _ hw F σ H S _ rp ex fun d u H1 S1 q1 g1 h1 => ?_
  obtain ⟨kb, e, q⟩ := trD_sound g1.sh h1 q1
  exact ⟨kb, e, k kb H1 S1 q g1⟩
variable {wt wu : WT} {rest : List Expr}
def wtNot (wt : WT) : WT := fun x ρ Q => wt x ρ fun b => Q (!b)
theorem td_not (ha : TD X E a wt) : TD X E (.UnaryOp .Not a pos) (wtNot wt) := by
  obtain ⟨t, p, s⟩ := ha.ex
  exact ⟨_, pt_not p, fun x ρ Q hw F σ H S Q' rp ex k => s x ρ _ hw F σ H S _ rp ex fun b H' S' q g => k _ H' S' q g⟩
def wAnd (wt wu : WT) : WT := fun x ρ Q => wt x ρ fun b => Br b (wu x ρ Q) (Q false) ⟨⟩ ⟨⟩
def wOr (wt wu : WT) : WT := fun x ρ Q => wt x ρ fun b => Br b (Q true) (wu x ρ Q) ⟨⟩ ⟨⟩
theorem wd_and1 (ha : TD X E a wt) : WD X E (.BoolOp .And [a] pos) wt := by
  obtain ⟨t, p, s⟩ := ha.ex
  exact ⟨_, pw_and1 p, s⟩
theorem wd_or1 (ha : TD X E a wt) : WD X E (.BoolOp .Or [a] pos) wt := by
  obtain ⟨t, p, s⟩ := ha.ex
  exact ⟨_, pw_or1 p, s⟩
theorem wd_and (ha : TD X E a wt) (hb : WD X E (.BoolOp .And (b :: rest) pos) wu) : WD X E (.BoolOp .And (a :: b :: rest) pos) (wAnd wt wu) := by
  obtain ⟨t, p, s⟩ := ha.ex
  obtain ⟨t', p', s'⟩ := hb.ex
  refine ⟨_, pw_and p p', fun x ρ Q hw F σ H S Q' rp ex k => ?_⟩
  refine s x ρ _ hw F σ H S _ rp ex fun b H1 S1 q1 g1 => ?_
  cases b with
  | true => exact iteT (s' x ρ _ q1 F σ H1 S1 _ (rp.grow g1) (ex.grow g1) fun b H2 S2 q2 g2 => k b H2 S2 q2 (g1.trans g2))
  | false => exact iteF (k _ H1 S1 q1 g1)
theorem wd_or (ha : TD X E a wt) (hb : WD X E (.BoolOp .Or (b :: rest) pos) wu) : WD X E (.BoolOp .Or (a :: b :: rest) pos) (wOr wt wu) := by
  obtain ⟨t, p, s⟩ := ha.ex
  obtain ⟨t', p', s'⟩ := hb.ex
  refine ⟨_, pw_or p p', fun x ρ Q hw F σ H S Q' rp ex k => ?_⟩
  refine s x ρ _ hw F σ H S _ rp ex fun b H1 S1 q1 g1 => ?_
  cases b with
  | true => exact iteT (k _ H1 S1 q1 g1)
  | false => exact iteF (s' x ρ _ q1 F σ H1 S1 _ (rp.grow g1) (ex.grow g1) fun b H2 S2 q2 g2 => k b H2 S2 q2 (g1.trans g2))
theorem td_w (h : WD X E e wt) : TD X E e wt := by
  obtain ⟨t, p, s⟩ := h.ex
  exact ⟨_, p.pt, s⟩
/-! .. as values -/
theorem ed_one {op} (h : ED X E a wa) : ED X E (.BoolOp op [a] pos) wa := by
  obtain ⟨t, p, s⟩ := h.ex
  exact ⟨_, pe_one p, s⟩
def wAndV (wa wb : WE) : WE := fun x ρ Q => wa x ρ fun d => trD d fun k => Br k (wb x ρ Q) (Q d) ⟨⟩ ⟨⟩
def wOrV (wa wb : WE) : WE := fun x ρ Q => wa x ρ fun d => trD d fun k => Br k (Q d) (wb x ρ Q) ⟨⟩ ⟨⟩
theorem ed_and (ha : ED X E a wa) (hb : ED X E (.BoolOp .And (b :: rest) pos) wb) : ED X E (.BoolOp .And (a :: b :: rest) pos) (wAndV wa wb) := by
  obtain ⟨t, p, s⟩ := ha.ex
  obtain ⟨t', p', s'⟩ := hb.ex
  refine ⟨_, pe_andT p p', fun x ρ Q hw F σ H S Q' rp ex k => ?_⟩
  refine s x ρ _ hw F σ H S _ rp ex fun d u H1 S1 q1 g1 h1 => ?_
  obtain ⟨kb, e, q⟩ := trD_sound (K := X.K) g1.sh (BDat.of g1.sh h1) q1
  refine ⟨kb, e, ?_⟩
  cases kb with
  | true => exact iteT (s' x ρ _ q F σ H1 S1 _ (rp.grow g1) (ex.grow g1) fun d v H2 S2 q2 g2 h2 => k d v H2 S2 q2 (g1.trans g2) h2)
  | false => exact iteF (k _ _ H1 S1 q g1 h1)
theorem ed_or (ha : ED X E a wa) (hb : ED X E (.BoolOp .Or (b :: rest) pos) wb) : ED X E (.BoolOp .Or (a :: b :: rest) pos) (wOrV wa wb) := by
  obtain ⟨t, p, s⟩ := ha.ex
  obtain ⟨t', p', s'⟩ := hb.ex
  refine ⟨_, pe_orT p p', fun x ρ Q hw F σ H S Q' rp ex k => ?_⟩
  refine s x ρ _ hw F σ H S _ rp ex fun d u H1 S1 q1 g1 h1 => ?_
  obtain ⟨kb, e, q⟩ := trD_sound (K := X.K) g1.sh (BDat.of g1.sh h1) q1
  refine ⟨kb, e, ?_⟩
  cases kb with
  | true => exact iteT (k _ _ H1 S1 q g1 h1)
  | false => exact iteF (s' x ρ _ q F σ H1 S1 _ (rp.grow g1) (ex.grow g1) fun d v H2 S2 q2 g2 h2 => k d v H2 S2 q2 (g1.trans g2) h2)
def wNotV (wa : WE) : WE := fun x ρ Q => wa x ρ fun d => trD d fun k => Q (.bl (!k))
theorem ed_not (ha : BD X E a wa) : ED X E (.UnaryOp .Not a pos) (wNotV wa) := by
  obtain ⟨t, p, s⟩ := ha.ex
  refine ⟨_, pe_notT p, fun x ρ Q hw F σ H S Q' rp ex k => ?_⟩
  refine s x ρ _ hw F σ H S _ rp ex fun d u H1 S1 q1 g1 h1 => ?_
  obtain ⟨kb, e, q⟩ := trD_sound (K := X.K) g1.sh h1 q1
  exact ⟨kb, e, k _ _ H1 S1 q g1 (by unfold Dat; rfl)⟩
def wIf (wt : WT) (wa wb : WE) : WE := fun x ρ Q => wt x ρ fun b => Br b (wa x ρ Q) (wb x ρ Q) ⟨⟩ ⟨⟩
theorem ed_ifexp {c : Expr} (hc : TD X E c wt) (ha : ED X E a wa) (hb : ED X E b wb) : ED X E (.IfExp c a b pos) (wIf wt wa wb) := by
  obtain ⟨t, p, s⟩ := hc.ex
  obtain ⟨ta, pa, sa⟩ := ha.ex
  obtain ⟨tb, pb, sb⟩ := hb.ex
  refine ⟨_, pe_ifExp p pa pb, fun x ρ Q hw F σ H S Q' rp ex k => ?_⟩
  refine s x ρ _ hw F σ H S _ rp ex fun b H1 S1 q1 g1 => ?_
  cases b with
  | true => exact iteT (sa x ρ _ q1 F σ H1 S1 _ (rp.grow g1) (ex.grow g1) fun d v H2 S2 q2 g2 h2 => k d v H2 S2 q2 (g1.trans g2) h2)
  | false => exact iteF (sb x ρ _ q1 F σ H1 S1 _ (rp.grow g1) (ex.grow g1) fun d v H2 S2 q2 g2 h2 => k d v H2 S2 q2 (g1.trans g2) h2)

/-! ### arguments, displays -/
def wNil : WL := fun _ _ Q => Q []
theorem ad_nil : AD X E [] wNil := ⟨_, pa_nil, fun x ρ Q hw F σ H S Q' rp ex k => k [] [] H S hw (.refl rp.sh) .nil⟩
def wCons (wa : WE) (wl : WL) : WL := fun x ρ Q => wa x ρ fun d => wl x ρ fun ds => Q (d :: ds)
theorem ad_cons (ha : ED X E a wa) (hr : AD X E es wl) (hs : starEach (a :: es) X.env = (false, eval a X.env) :: starEach es X.env := by rfl) : AD X E (a :: es) (wCons wa wl) := by
  obtain ⟨t, p, s⟩ := ha.ex
  obtain ⟨t', p', s'⟩ := hr.ex
  refine ⟨_, pa_cons p p' hs, fun x ρ Q hw F σ H S Q' rp ex k => ?_⟩
  refine s x ρ _ hw F σ H S _ rp ex fun d u H1 S1 q1 g1 h1 => ?_
  refine s' x ρ _ q1 F σ H1 S1 _ (rp.grow g1) (ex.grow g1) fun ds vs H2 S2 q2 g2 h2 => ?_
  exact k _ _ H2 S2 q2 (g1.trans g2) (.cons (Dat.mono g2.ss _ _ h1) h2)
theorem ab_nil : AB X E [] wNil := ⟨_, pa_nil, fun x ρ Q hw F σ H S Q' rp ex k => k [] [] H S hw (.refl rp.sh) rfl⟩
theorem ab_cons (ha : BD X E a wa) (hr : AB X E es wl) (hs : starEach (a :: es) X.env = (false, eval a X.env) :: starEach es X.env := by rfl) : AB X E (a :: es) (wCons wa wl) := by
  obtain ⟨t, p, s⟩ := ha.ex
  obtain ⟨t', p', s'⟩ := hr.ex
  refine ⟨_, pa_cons p p' hs, fun x ρ Q hw F σ H S Q' rp ex k => ?_⟩
  refine s x ρ _ hw F σ H S _ rp ex fun d u H1 S1 q1 g1 h1 => ?_
  refine s' x ρ _ q1 F σ H1 S1 _ (rp.grow g1) (ex.grow g1) fun ds vs H2 S2 q2 g2 h2 => ?_
  exact k _ _ H2 S2 q2 (g1.trans g2) ⟨_, _, rfl, h1.grow g2, h2⟩
def wTup (wl : WL) : WE := fun x ρ Q => wl x ρ fun ds => ds.length ≤ sizeLine ∧ Q (.tup ds)
def wLst (wl : WL) : WL := fun x ρ Q => wl x ρ fun ds => ds.length ≤ sizeLine ∧ Q ds
theorem ed_tup {k1} (h : AD X E es wl) : ED X E (.Tuple es k1 pos) (wTup wl) := by
  obtain ⟨t, p, s⟩ := h.ex
  refine ⟨_, pe_tup p, fun x ρ Q hw F σ H S Q' rp ex k => ?_⟩
  refine s x ρ _ hw F σ H S _ rp ex fun ds vs H1 S1 q1 g1 h1 => ⟨by rw [h1.len]; exact q1.1, fun p hp => ?_⟩
  have h0 := g1.freeS hp
  refine k _ _ _ (upd S1 p (.tup vs)) q1.2 ((g1.lay hp).share (g1.freeH hp) h0 upd_same) ?_
  unfold Dat
  exact ⟨p, vs, rfl, upd_same, Dats.mono (same_upd h0) _ _ h1⟩
theorem df_lst (h : AD X E es wl) : DF X E (.List es pos) (wLst wl) := by
  obtain ⟨t, p, s⟩ := h.ex
  refine ⟨_, pe_lst p, fun x ρ Q hw F σ H S Q' rp ex k => ?_⟩
  refine s x ρ _ hw F σ H S _ rp ex fun ds vs H1 S1 q1 g1 h1 => ⟨by rw [h1.len]; exact q1.1, fun p hp => ?_⟩
  exact k _ _ _ _ S1 q1.2 (g1.lay hp) (g1.freeH hp) (g1.freeS hp) upd_same h1
def wUn (f : Int → Int) (wa : WE) : WE := fun x ρ Q => wa x ρ fun d => match d with
  | .int i => Q (.int (f i))
  | _ => False
theorem ed_un {op : UnaryOp} {f : Int → Int} (ho : UnR X (unaryOp op) (rU fun i => .int (f i))) (ha : ED X E a wa) : ED X E (.UnaryOp op a pos) (wUn f wa) := by
  obtain ⟨t, p, s⟩ := ha.ex
  refine ⟨_, pe_un ho p, fun x ρ Q hw F σ H S Q' rp ex k => ?_⟩
  refine s x ρ _ hw F σ H S _ rp ex fun d u H1 S1 q1 g1 h1 => ?_
  cases d with
  | int i =>
    unfold Dat at h1
    exact ⟨i, h1, k _ _ H1 S1 q1 g1 (by unfold Dat; rfl)⟩
  | _ => exact q1.elim
end
end NL

namespace NL
open PySem PySem.Spec L2
open PyProof.Rows hiding St
variable [KC]

/-! ### the operators by data -/
theorem Dat.i {S : Hp} {i : Int} : Dat S (.int i) (.int i) := by unfold Dat; rfl
theorem Dat.s {S : Hp} {i : Str} : Dat S (.str i) (.str i) := by unfold Dat; rfl
theorem Dat.b {S : Hp} {i : Bool} : Dat S (.bl i) (.bl i) := by unfold Dat; rfl
theorem Dat.n {S : Hp} : Dat S .non .non := by unfold Dat; rfl
theorem BDat.i {H S : Hp} {i : Int} {v : V} (h : BDat H S (.int i) v) : v = .int i := by unfold BDat Dat at h; exact h
theorem BDat.s {H S : Hp} {i : Str} {v : V} (h : BDat H S (.str i) v) : v = .str i := by unfold BDat Dat at h; exact h
theorem BDat.b {H S : Hp} {i : Bool} {v : V} (h : BDat H S (.bl i) v) : v = .bl i := by unfold BDat Dat at h; exact h
theorem BDat.n {H S : Hp} {v : V} (h : BDat H S .non v) : v = .non := by unfold BDat Dat at h; exact h
theorem Dat.lstOf {S : Hp} {xs : List D} {vs : List V} {p : Addr} (h : S p = some (.lst vs)) (q : Dats S xs vs) : Dat S (.lst xs) (.ref p) := by
  unfold Dat
  exact ⟨p, vs, rfl, h, q⟩
/-- a list just laid, shared -/
theorem lay_lst {H S : Hp} {xs : List D} {vs : List V} {p : Addr} (sh : Same S H) (hp : H p = none) (q : Dats S xs vs) :
    Grow H S (upd H p (.lst vs)) (upd S p (.lst vs)) ∧ Dat (upd S p (.lst vs)) (.lst xs) (.ref p) := by
  have h0 := sh.free hp
  exact ⟨((Grow.refl sh).lay hp).share hp h0 upd_same, .lstOf upd_same (Dats.mono (same_upd h0) _ _ q)⟩

section
variable {X : Cx}
def gAdd : D → D → (D → Prop) → Prop
  | .int i, .int j, Q => Q (.int (i + j))
  | .str s, .str t, Q => s.length + t.length ≤ sizeLine ∧ Q (.str (s ++ t))
  | .lst xs, .lst ys, Q => xs.length + ys.length ≤ sizeLine ∧ Q (.lst (xs ++ ys))
  | _, _, _ => False
theorem dAdd : OpD X (binaryOp .Add) gAdd := by
  refine ⟨_, op_add.or (op_add_str.or op_cat), fun d e Q h H S u v Q' sh hd he k => ?_⟩
  unfold gAdd at h
  split at h
  · exact .inl ⟨_, _, hd.i, he.i, k _ _ H S h (.refl sh) .i⟩
  · exact .inr (.inl ⟨_, _, hd.s, he.s, h.1, k _ _ H S h.2 (.refl sh) .s⟩)
  · obtain ⟨a, vs, rfl, ra, qa⟩ := hd
    obtain ⟨b, ws, rfl, rb, qb⟩ := he
    refine .inr (.inr ⟨a, b, vs, ws, rfl, rfl, ra, rb, by rw [qa.len, qb.len]; exact h.1, fun p hp => ?_⟩)
    obtain ⟨g, z⟩ := lay_lst sh hp (qa.app qb)
    exact k _ _ _ _ h.2 g z
  · exact h.elim
def gInt (C : Int → Int → Prop) (f : Int → Int → Int) : D → D → (D → Prop) → Prop
  | .int i, .int j, Q => C i j ∧ Q (.int (f i j))
  | _, _, _ => False
def gInt0 (f : Int → Int → Int) : D → D → (D → Prop) → Prop
  | .int i, .int j, Q => Q (.int (f i j))
  | _, _, _ => False
theorem dInt {f : Value → Value → Sem Value} {C : Int → Int → Prop} {g : Int → Int → Int} (ho : OpR X f (rI C fun i j => .int (g i j))) : OpD X f (gInt C g) := by
  refine ⟨_, ho, fun d e Q h H S u v Q' sh hd he k => ?_⟩
  unfold gInt at h
  split at h
  · exact ⟨_, _, hd.i, he.i, h.1, k _ _ H S h.2 (.refl sh) .i⟩
  · exact h.elim
theorem dInt0 {f : Value → Value → Sem Value} {g : Int → Int → Int} (ho : OpR X f (rI0 fun i j => .int (g i j))) : OpD X f (gInt0 g) := by
  refine ⟨_, ho, fun d e Q h H S u v Q' sh hd he k => ?_⟩
  unfold gInt0 at h
  split at h
  · exact ⟨_, _, hd.i, he.i, k _ _ H S h (.refl sh) .i⟩
  · exact h.elim
theorem dSub : OpD X (binaryOp .Sub) (gInt0 fun i j => i - j) := dInt0 op_sub
theorem dDiv : OpD X (binaryOp .FloorDiv) (gInt CDivW fun i j => i / j) := dInt op_fdivW
theorem dMod : OpD X (binaryOp .Mod) (gInt (fun _ j => 0 < j) fun i j => i % j) := dInt op_mod
theorem dPow : OpD X (binaryOp .Pow) (gInt CPow fun i j => i ^ j.toNat) := dInt op_pow
theorem dShl : OpD X (binaryOp .LShift) (gInt CPow fun i j => i * 2 ^ j.toNat) := dInt op_shl
theorem dShr : OpD X (binaryOp .RShift) (gInt (fun _ j => 0 ≤ j) fun i j => i / 2 ^ j.toNat) := dInt op_shr
theorem dAnd : OpD X (binaryOp .BitAnd) (gInt0 fun i j => Builtin.bitAnd i j) := dInt0 op_and
def srep (n : Nat) (s : Str) : Str := ⟨((List.replicate n s.cps.toList).flatten).toArray⟩
theorem fold_app (n : Nat) (a b : Array Nat) : ((List.replicate n a).foldl (· ++ ·) b).toList = b.toList ++ (List.replicate n a.toList).flatten := by
  induction n generalizing b with
  | zero => simp
  | succ n ih =>
    simp only [List.replicate_succ, List.foldl_cons, List.flatten_cons]
    rw [ih, Array.toList_append, List.append_assoc]
theorem op_repS : OpR X (binaryOp .Mult) (fun x y H Q => ∃ i k, x = .str i ∧ y = .int k ∧ (-(2 ^ 63) ≤ k ∧ k < 2 ^ 63 ∧ i.length * k.toNat ≤ sizeLine) ∧ Q (.str (srep k.toNat i)) H) := by
  intro pins s σ H x y v u Q I rx ry h
  obtain ⟨i, k, rfl, rfl, ⟨k1, k2, k3⟩, q⟩ := h
  obtain ⟨t, rfl⟩ := rx
  obtain ⟨t', rfl⟩ := ry
  have fin : ∀ tk : Tok, ∀ z, z = srep k.toNat i → EP X pins σ Q (.str z tk) { s with toks := s.toks + 1 } := fun tk z hz => by
    subst hz
    exact ⟨.str _, H, I.tok _, ⟨_, rfl⟩, q⟩
  refine P.mul_str (by rw [decide_eq_false (by omega), decide_eq_false (by omega)]; rfl) (fun h1 h2 => ?_) (fun h1 h2 => ?_) ?_
  · have hk : k = (k.toNat : Int) := by omega
    have hs : (sizeLine : Int) = 16777216 := by rfl
    have h3 : (i.length : Int) * k ≤ 16777216 := by
      rw [hk]
      rw [← hs]
      exact_mod_cast k3
    have h4 : (i.length : Int) ≤ (2 ^ 63 - 1) / k := by
      rw [Int.le_ediv_iff_mul_le (by omega)]
      omega
    omega
  · unfold Builtin.Str.tooLong
    exact decide_eq_false (by omega)
  · have lz : (srep k.toNat i).length ≤ sizeLine := by
      have : (srep k.toNat i).length = i.length * k.toNat := by
        show (List.flatten _).toArray.size = _
        rw [List.size_toArray, List.length_flatten, List.map_replicate, List.sum_replicate_nat, Nat.mul_comm]
        rfl
      rw [this]
      exact k3
    split
    · rename_i h1
      refine ⟨by show (#[] : Array Nat).size ≤ _; simp, fin _ _ ?_⟩
      have : k.toNat = 0 := by omega
      rw [this]
      rfl
    · rename_i h1
      split
      · rename_i h2
        have e : i = srep k.toNat i := by
          rcases Bool.or_eq_true _ _ ▸ h2 with h2 | h2
          · have : k.toNat = 1 := by
              have : k = 1 := by simpa using h2
              omega
            rw [this]
            show i = ⟨(List.flatten [i.cps.toList]).toArray⟩
            simp
          · have : i.cps = #[] := by
              have : i.cps.size = 0 := (beq_iff_eq.mp h2 : i.length = 0)
              exact Array.eq_empty_of_size_eq_zero this
            have e2 : i = ⟨#[]⟩ := by
              cases i
              simp at this
              rw [this]
            rw [e2]
            unfold srep
            simp
        exact ⟨.str i, H, I, ⟨_, rfl⟩, by rw [e]; exact q⟩
      · have e : (⟨List.foldl (fun x1 x2 => x1 ++ x2) #[] (List.replicate k.toNat i.cps)⟩ : Str) = srep k.toNat i := by
          unfold srep
          congr 1
          apply Array.toList_inj.mp
          have := fold_app k.toNat i.cps #[]
          simpa using this
        exact ⟨by rw [e]; exact lz, fin _ _ e⟩
def gMul : D → D → (D → Prop) → Prop
  | .int i, .int j, Q => CMulW i j ∧ Q (.int (i * j))
  | .str s, .int k, Q => (-(2 ^ 63) ≤ k ∧ k < 2 ^ 63 ∧ s.length * k.toNat ≤ sizeLine) ∧ Q (.str (srep k.toNat s))
  | .lst xs, .int k, Q => (-(2 ^ 63) ≤ k ∧ k < 2 ^ 63 ∧ xs.length * k.toNat ≤ sizeLine) ∧ Q (.lst (List.replicate k.toNat xs).flatten)
  | _, _, _ => False
theorem dMul : OpD X (binaryOp .Mult) gMul := by
  refine ⟨_, op_mulW.or (op_repS.or op_rep), fun d e Q h H S u v Q' sh hd he k => ?_⟩
  unfold gMul at h
  split at h
  · exact .inl ⟨_, _, hd.i, he.i, h.1, k _ _ H S h.2 (.refl sh) .i⟩
  · exact .inr (.inl ⟨_, _, hd.s, he.i, h.1, k _ _ H S h.2 (.refl sh) .s⟩)
  · obtain ⟨a, vs, rfl, ra, qa⟩ := hd
    refine .inr (.inr ⟨a, _, vs, rfl, he.i, ra, h.1.1, h.1.2.1, by rw [qa.len]; exact h.1.2.2, fun p hp => ?_⟩)
    obtain ⟨g, z⟩ := lay_lst sh hp (qa.rep _)
    exact k _ _ _ _ h.2 g z
  · exact h.elim

/-! ### new lists by operators -/
structure FopD (X : Cx) (f : Value → Value → Sem Value) (g : D → D → (List D → Prop) → Prop) : Prop where
  ex : ∃ r : R2, OpR X f r ∧ ∀ (d e : D) (Q : List D → Prop), g d e Q → ∀ (H S : Hp) (u v : V) (Q' : VK), Same S H → BDat H S d u → BDat H S e v →
    (∀ z vs p, Q z → H p = none → Dats S z vs → Q' (.ref p) (upd H p (.lst vs))) → r u v H Q'
def gCatF : D → D → (List D → Prop) → Prop
  | .lst xs, .lst ys, Q => xs.length + ys.length ≤ sizeLine ∧ Q (xs ++ ys)
  | _, _, _ => False
theorem fCat : FopD X (binaryOp .Add) gCatF := by
  refine ⟨_, op_cat, fun d e Q h H S u v Q' sh hd he k => ?_⟩
  unfold gCatF at h
  split at h
  · obtain ⟨a, vs, rfl, ra, qa⟩ := hd
    obtain ⟨b, ws, rfl, rb, qb⟩ := he
    exact ⟨a, b, vs, ws, rfl, rfl, ra, rb, by rw [qa.len, qb.len]; exact h.1, fun p hp => k _ _ _ h.2 hp (qa.app qb)⟩
  · exact h.elim
def gRepF : D → D → (List D → Prop) → Prop
  | .lst xs, .int k, Q => (-(2 ^ 63) ≤ k ∧ k < 2 ^ 63 ∧ xs.length * k.toNat ≤ sizeLine) ∧ Q (List.replicate k.toNat xs).flatten
  | _, _, _ => False
theorem fRep : FopD X (binaryOp .Mult) gRepF := by
  refine ⟨_, op_rep, fun d e Q h H S u v Q' sh hd he k => ?_⟩
  unfold gRepF at h
  split at h
  · obtain ⟨a, vs, rfl, ra, qa⟩ := hd
    exact ⟨a, _, vs, rfl, he.i, ra, h.1.1, h.1.2.1, by rw [qa.len]; exact h.1.2.2, fun p hp => k _ _ _ h.2 hp (qa.rep _)⟩
  · exact h.elim
variable {E : XK} {e a b : Expr} {es : List Expr} {pos : Pos} {w wa wb : WE} {wl : WL}
def wOpF (g : D → D → (List D → Prop) → Prop) (wa wb : WE) : WL := fun x ρ Q => wa x ρ fun d => wb x ρ fun e => g d e Q
theorem df_op {op : Operator} {g : D → D → (List D → Prop) → Prop} (ho : FopD X (binaryOp op) g) (ha : BD X E a wa) (hb : BD X E b wb) : DF X E (.BinOp a op b pos) (wOpF g wa wb) := by
  obtain ⟨r, o, so⟩ := ho.ex
  obtain ⟨ta, pa, sa⟩ := ha.ex
  obtain ⟨tb, pb, sb⟩ := hb.ex
  refine ⟨_, pe_op o pa pb, fun x ρ Q hw F σ H S Q' rp ex k => ?_⟩
  refine sa x ρ _ hw F σ H S _ rp ex fun d u H1 S1 q1 g1 h1 => ?_
  refine sb x ρ _ q1 F σ H1 S1 _ (rp.grow g1) (ex.grow g1) fun e v H2 S2 q2 g2 h2 => ?_
  have g12 := g1.trans g2
  refine so d e Q q2 H2 S2 u v Q' g2.sh (h1.grow g2) h2 fun z vs p q3 hp h3 => ?_
  exact k z p vs _ S2 q3 (g12.lay hp) (g12.freeH hp) (g12.freeS hp) upd_same h3

/-! ### comparisons by data -/
/-- data that == tells apart as equality does, at most so deep -/
def nb : Nat → D → Bool
  | 0, _ => false
  | _ + 1, .non => true
  | _ + 1, .int _ => true
  | _ + 1, .str s => PyData.strOk s
  | n + 1, .lst xs => xs.all (nb n)
  | n + 1, .tup xs => xs.all (nb n)
  | _ + 1, _ => false
def toPy : Nat → D → PyData
  | 0, _ => .none
  | _ + 1, .non => .none
  | _ + 1, .int i => .int i
  | _ + 1, .str s => .str s
  | n + 1, .lst xs => .list (xs.map (toPy n))
  | n + 1, .tup xs => .tuple (xs.map (toPy n))
  | _ + 1, _ => .none
theorem nb_dp {H : Hp} {K : PySem.W.Frag} : ∀ (n : Nat) (d : D) (v : V), nb n d = true → Dat H d v → Dp K H v (toPy n d)
  | 0, _, _, h, _ => by simp [nb] at h
  | n + 1, .non, v, _, q => by unfold Dat at q; subst q; exact .non
  | n + 1, .int i, v, _, q => by unfold Dat at q; subst q; exact .int i
  | n + 1, .str i, v, _, q => by unfold Dat at q; subst q; exact .str i
  | n + 1, .bl _, v, h, _ => by simp [nb] at h
  | n + 1, .dct _ _, v, h, _ => by simp [nb] at h
  | n + 1, .obj _ _ _, v, h, _ => by simp [nb] at h
  | n + 1, .dkz _ _, v, h, _ => by simp [nb] at h
  | n + 1, .ref _, v, h, _ => by simp [nb] at h
  | n + 1, .scr _, v, h, _ => by simp [nb] at h
  | n + 1, .lst xs, v, h, q => by
    unfold Dat at q
    obtain ⟨a, vs, rfl, r, q⟩ := q
    have h' : ∀ x ∈ xs, nb n x = true := by simpa [nb] using h
    refine .lst (.of r) ?_
    clear r h
    induction xs generalizing vs with
    | nil => unfold Dats at q; subst q; exact .nil
    | cons x xs ih =>
      unfold Dats at q
      obtain ⟨v, r, rfl, q1, q2⟩ := q
      exact .cons (nb_dp n x v (h' x (by simp)) q1) (ih r q2 fun y hy => h' y (by simp [hy]))
  | n + 1, .tup xs, v, h, q => by
    unfold Dat at q
    obtain ⟨a, vs, rfl, r, q⟩ := q
    have h' : ∀ x ∈ xs, nb n x = true := by simpa [nb] using h
    refine .tup (.of r) ?_
    clear r h
    induction xs generalizing vs with
    | nil => unfold Dats at q; subst q; exact .nil
    | cons x xs ih =>
      unfold Dats at q
      obtain ⟨v, r, rfl, q1, q2⟩ := q
      exact .cons (nb_dp n x v (h' x (by simp)) q1) (ih r q2 fun y hy => h' y (by simp [hy]))
omit [KC] in
theorem nb_shape : ∀ (n : Nat) (d : D), nb n d = true → (toPy n d).canLay0 = true ∧ (toPy n d).depth ≤ n
  | 0, _, h => by simp [nb] at h
  | n + 1, .non, _ => by simp [toPy, PyData.canLay0, PyData.depth]
  | n + 1, .int i, _ => by simp [toPy, PyData.canLay0, PyData.depth]
  | n + 1, .str i, h => by simpa [toPy, PyData.canLay0, PyData.depth, nb] using h
  | n + 1, .bl _, h => by simp [nb] at h
  | n + 1, .dct _ _, h => by simp [nb] at h
  | n + 1, .obj _ _ _, h => by simp [nb] at h
  | n + 1, .dkz _ _, h => by simp [nb] at h
  | n + 1, .ref _, h => by simp [nb] at h
  | n + 1, .scr _, h => by simp [nb] at h
  | n + 1, .lst xs, h => by
    have h' : ∀ x ∈ xs, nb n x = true := by simpa [nb] using h
    have key : PyData.canLayAll0 (xs.map (toPy n)) = true ∧ PyData.depthAll (xs.map (toPy n)) ≤ n := by
      clear h
      induction xs with
      | nil => simp [PyData.canLayAll0, PyData.depthAll]
      | cons x xs ih =>
        obtain ⟨i1, i2⟩ := ih fun y hy => h' y (by simp [hy])
        obtain ⟨j1, j2⟩ := nb_shape n x (h' x (by simp))
        simp only [List.map_cons, PyData.canLayAll0, PyData.depthAll, i1, j1, Bool.and_self, true_and]
        omega
    simp only [toPy, PyData.canLay0, PyData.depth, key.1, true_and]
    omega
  | n + 1, .tup xs, h => by
    have h' : ∀ x ∈ xs, nb n x = true := by simpa [nb] using h
    have key : PyData.canLayAll0 (xs.map (toPy n)) = true ∧ PyData.depthAll (xs.map (toPy n)) ≤ n := by
      clear h
      induction xs with
      | nil => simp [PyData.canLayAll0, PyData.depthAll]
      | cons x xs ih =>
        obtain ⟨i1, i2⟩ := ih fun y hy => h' y (by simp [hy])
        obtain ⟨j1, j2⟩ := nb_shape n x (h' x (by simp))
        simp only [List.map_cons, PyData.canLayAll0, PyData.depthAll, i1, j1, Bool.and_self, true_and]
        omega
    simp only [toPy, PyData.canLay0, PyData.depth, key.1, true_and]
    omega
omit [KC] in
theorem eqvAll_iff {n : Nat} (ih : ∀ d e : D, nb n d = true → nb n e = true → (PyData.eqv (toPy n d) (toPy n e) = true ↔ d = e)) : ∀ (xs ys : List D), (∀ x ∈ xs, nb n x = true) → (∀ y ∈ ys, nb n y = true) →
    (PyData.eqvAll (xs.map (toPy n)) (ys.map (toPy n)) = true ↔ xs = ys)
  | [], [], _, _ => by simp [PyData.eqvAll]
  | [], _ :: _, _, _ => by simp [PyData.eqvAll]
  | _ :: _, [], _, _ => by simp [PyData.eqvAll]
  | x :: xs, y :: ys, hx, hy => by
    simp only [List.map_cons, PyData.eqvAll, Bool.and_eq_true, List.cons.injEq]
    rw [ih x y (hx x (by simp)) (hy y (by simp)), eqvAll_iff ih xs ys (fun z hz => hx z (by simp [hz])) fun z hz => hy z (by simp [hz])]
omit [KC] in
theorem eqv_iff : ∀ (n : Nat) (d e : D), nb n d = true → nb n e = true → (PyData.eqv (toPy n d) (toPy n e) = true ↔ d = e)
  | 0, _, _, h, _ => by simp [nb] at h
  | n + 1, d, e, h, g => by
    have ih := eqv_iff n
    cases d <;> cases e <;> simp_all [nb, toPy, PyData.eqv]
    · rename_i xs ys
      exact eqvAll_iff ih xs ys h g
    · rename_i xs ys
      exact eqvAll_iff ih xs ys h g
omit [KC] in
theorem nb_shaped {d : D} (h : nb 20 d = true) : SeqAt.shaped (toPy 20 d) = true := by
  obtain ⟨h1, h2⟩ := nb_shape 20 d h
  unfold SeqAt.shaped
  rw [h1, decide_eq_true (by omega)]
  rfl
open Classical in
noncomputable def deq (d e : D) : Bool := decide (d = e)
def gEq (neg : Bool) : D → D → (D → Prop) → Prop
  | .bl i, .bl j, Q => Q (.bl (neg ^^ (i == j)))
  | .int i, .int j, Q => Q (.bl (neg ^^ decide (i = j)))
  | .str i, .str j, Q => Q (.bl (neg ^^ decide (i = j)))
  | d, e, Q => (nb 20 d = true ∧ nb 20 e = true) ∧ Q (.bl (neg ^^ deq d e))
omit [KC] in
theorem eqv_deq {d e : D} (h : nb 20 d = true) (g : nb 20 e = true) : PyData.eqv (toPy 20 d) (toPy 20 e) = deq d e := by
  rw [Bool.eq_iff_iff, eqv_iff 20 d e h g]
  simp [deq]
omit [KC] in
theorem dec_bl' {i j : Bool} : decide (V.bl i = V.bl j) = (i == j) := by
  rw [Bool.eq_iff_iff]
  simp
theorem dEq {k : Nat} (hr : Room k X.A) : OpD X (compareOp .Eq) (gEq false) := by
  refine ⟨_, op_eq.or (op_eqD hr.units), fun d e Q h H S u v Q' sh hd he k => ?_⟩
  unfold gEq at h
  split at h
  · cases hd.b
    cases he.b
    exact .inl ⟨rfl, by rw [dec_bl']; simpa using k _ _ H S h (.refl sh) .b⟩
  · cases hd.i
    cases he.i
    exact .inl ⟨rfl, by simpa using k _ _ H S h (.refl sh) .b⟩
  · cases hd.s
    cases he.s
    exact .inl ⟨rfl, by simpa using k _ _ H S h (.refl sh) .b⟩
  · obtain ⟨⟨n1, n2⟩, h⟩ := h
    refine .inr ⟨_, _, nb_dp 20 _ u n1 (hd.full sh), nb_dp 20 _ v n2 (he.full sh), nb_shaped n1, nb_shaped n2, ?_⟩
    rw [eqv_deq n1 n2]
    simpa using k _ _ H S h (.refl sh) .b
theorem dNe {k : Nat} (hr : Room k X.A) : OpD X (compareOp .NotEq) (gEq true) := by
  refine ⟨_, op_ne.or (op_neD hr.units), fun d e Q h H S u v Q' sh hd he k => ?_⟩
  unfold gEq at h
  split at h
  · cases hd.b
    cases he.b
    exact .inl ⟨rfl, by rw [dec_bl']; simpa using k _ _ H S h (.refl sh) .b⟩
  · cases hd.i
    cases he.i
    exact .inl ⟨rfl, by simpa using k _ _ H S h (.refl sh) .b⟩
  · cases hd.s
    cases he.s
    exact .inl ⟨rfl, by simpa using k _ _ H S h (.refl sh) .b⟩
  · obtain ⟨⟨n1, n2⟩, h⟩ := h
    refine .inr ⟨_, _, nb_dp 20 _ u n1 (hd.full sh), nb_dp 20 _ v n2 (he.full sh), nb_shaped n1, nb_shaped n2, ?_⟩
    rw [eqv_deq n1 n2]
    simpa using k _ _ H S h (.refl sh) .b
def gCmp (p : Int → Int → Bool) : D → D → (D → Prop) → Prop
  | .int i, .int j, Q => Q (.bl (p i j))
  | _, _, _ => False
theorem dCmp {f : Value → Value → Sem Value} {g : Int → Int → Bool} (ho : OpR X f (rI0 fun i j => .bl (g i j))) : OpD X f (gCmp g) := by
  refine ⟨_, ho, fun d e Q h H S u v Q' sh hd he k => ?_⟩
  unfold gCmp at h
  split at h
  · exact ⟨_, _, hd.i, he.i, k _ _ H S h (.refl sh) .b⟩
  · exact h.elim
theorem dLt : OpD X (compareOp .Lt) (gCmp fun i j => decide (i < j)) := dCmp op_lt
theorem dLe : OpD X (compareOp .LtE) (gCmp fun i j => decide (i ≤ j)) := dCmp op_le
theorem dGt : OpD X (compareOp .Gt) (gCmp fun i j => decide (j < i)) := dCmp op_gt
theorem dGe : OpD X (compareOp .GtE) (gCmp fun i j => decide (j ≤ i)) := dCmp op_ge
/-- one sign in a text -/
def gInS (neg : Bool) : D → D → (D → Prop) → Prop
  | .str s, .str t, Q => match s.cps.toList with
    | [c] => Q (.bl (neg ^^ decide (c ∈ t.cps.toList)))
    | _ => False
  | _, _, _ => False
omit [KC] in
theorem str_one {s : Str} {c : Nat} (h : s.cps.toList = [c]) : s = ⟨#[c]⟩ := by
  cases s with
  | mk cps =>
    congr 1
    exact Array.ext' (by simpa using h)
theorem dInS : OpD X (compareOp .In) (gInS false) := by
  refine ⟨_, op_in_sign, fun d e Q h H S u v Q' sh hd he k => ?_⟩
  unfold gInS at h
  split at h
  · split at h
    · rename_i c hc
      cases hd.s
      cases he.s
      exact ⟨c, _, by rw [str_one hc], rfl, by simpa using k _ _ H S h (.refl sh) .b⟩
    · exact h.elim
  · exact h.elim
theorem dNotInS : OpD X (compareOp .NotIn) (gInS true) := by
  refine ⟨_, op_notIn_sign, fun d e Q h H S u v Q' sh hd he k => ?_⟩
  unfold gInS at h
  split at h
  · split at h
    · rename_i c hc
      cases hd.s
      cases he.s
      exact ⟨c, _, by rw [str_one hc], rfl, by simpa using k _ _ H S h (.refl sh) .b⟩
    · exact h.elim
  · exact h.elim
/-- is None -/
def isN : D → Bool
  | .non => true
  | _ => false
theorem isN_sound {H S : Hp} {d : D} {v : V} (h : BDat H S d v) : decide (v = V.non) = isN d := by
  cases d <;> simp only [BDat, Dat] at h
  · subst h; simp [isN]
  · subst h; simp [isN]
  · subst h; simp [isN]
  · subst h; simp [isN]
  · obtain ⟨a, _, rfl, _⟩ := h; simp [isN]
  · obtain ⟨a, _, rfl, _⟩ := h; simp [isN]
  · obtain ⟨a, _, rfl, _⟩ := h; simp [isN]
  · subst h; simp [isN]
  · obtain ⟨a, rfl, _⟩ := h; simp [isN]
  · obtain ⟨a, _, _, rfl, _⟩ := h; simp [isN]
  · obtain ⟨a, _, _, rfl, _⟩ := h; simp [isN]
def gIsN (neg : Bool) : D → D → (D → Prop) → Prop := fun d e Q => isN e = true ∧ Q (.bl (neg ^^ isN d))
theorem isN_v {H S : Hp} {d : D} {v : V} (h : BDat H S d v) (n : isN d = true) : v = .non := by
  have := isN_sound h
  rw [n] at this
  simpa using this
theorem dIsN : OpD X (compareOp .Is) (gIsN false) := by
  refine ⟨_, op_isN, fun d e Q h H S u v Q' sh hd he k => ?_⟩
  refine ⟨isN_v he h.1, ?_⟩
  rw [isN_sound hd]
  simpa using k _ _ H S h.2 (.refl sh) .b
theorem dIsNotN : OpD X (compareOp .IsNot) (gIsN true) := by
  refine ⟨_, op_notN, fun d e Q h H S u v Q' sh hd he k => ?_⟩
  refine ⟨isN_v he h.1, ?_⟩
  rw [isN_sound hd]
  simpa using k _ _ H S h.2 (.refl sh) .b
def gIsB : D → D → (D → Prop) → Prop
  | .bl i, .bl j, Q => Q (.bl (decide (i = j)))
  | _, _, _ => False
theorem dIsB : OpD X (compareOp .Is) gIsB := by
  refine ⟨_, op_isBl, fun d e Q h H S u v Q' sh hd he k => ?_⟩
  unfold gIsB at h
  split at h
  · exact ⟨_, _, hd.b, he.b, k _ _ H S h (.refl sh) .b⟩
  · exact h.elim

/-! ### subscripts -/
def gIdx : D → D → (D → Prop) → Prop
  | .lst xs, .int i, Q => ∃ d, atI xs i = some d ∧ Q d
  | .tup xs, .int i, Q => ∃ d, atI xs i = some d ∧ Q d
  | .scr ns, .int i, Q => ∃ n, atI ns i = some n ∧ Q (.int n)
  | .str z, .int i, Q => z.length ≤ sizeLine ∧ ∃ c, atI z.cps.toList i = some c ∧ Q (.str ⟨#[c]⟩)
  | _, _, _ => False
theorem atI_dats {S : Hp} {xs : List D} {vs : List V} {i : Int} {d : D} (q : Dats S xs vs) (h : atI xs i = some d) : ∃ v, atI vs i = some v ∧ Dat S d v := by
  unfold atI at h ⊢
  rw [q.len]
  cases e : ixN xs.length i with
  | none => rw [e] at h; cases h
  | some j =>
    rw [e] at h
    exact q.get h
omit [KC] in
theorem ex_atI_map {α β : Type} {f : α → β} {xs : List α} {i : Int} {Q : β → Prop} : (∃ d, atI (xs.map f) i = some d ∧ Q d) ↔ ∃ a, atI xs i = some a ∧ Q (f a) := by
  rw [show atI (xs.map f) i = (atI xs i).map f from by
    unfold atI
    rw [List.length_map]
    cases ixN xs.length i with
    | none => rfl
    | some j => simp]
  constructor
  · rintro ⟨d, h, q⟩
    cases e : atI xs i with
    | none => rw [e] at h; cases h
    | some a =>
      rw [e] at h
      cases h
      exact ⟨a, rfl, q⟩
  · rintro ⟨a, h, q⟩
    exact ⟨f a, by rw [h]; rfl, q⟩
omit [KC] in
theorem atI0 {α : Type} {x : α} {r : List α} : atI (x :: r) 0 = some x := atI_nat (j := 0) rfl
omit [KC] in
theorem atI1 {α : Type} {x y : α} {r : List α} : atI (x :: y :: r) 1 = some y := atI_nat (j := 1) rfl
omit [KC] in
theorem atI2 {α : Type} {x y z : α} {r : List α} : atI (x :: y :: z :: r) 2 = some z := atI_nat (j := 2) rfl
omit [KC] in
theorem atI_map {α β : Type} {f : α → β} {xs : List α} {i : Int} : atI (xs.map f) i = (atI xs i).map f := by
  unfold atI
  rw [List.length_map]
  cases ixN xs.length i with
  | none => rfl
  | some j => simp
theorem ed_ix (ha : BD X E a wa) (hb : BD X E b wb) (hs : PlainIx b := by exact fun _ _ => rfl) (hK : X.K = KC.K := by rfl) : ED X E (.Subscript a b pos) (wOp gIdx wa wb) := by
  obtain ⟨ta, pa, sa⟩ := ha.ex
  obtain ⟨tb, pb, sb⟩ := hb.ex
  refine ⟨_, pe_ix ix_seq pa pb hs, fun x ρ Q hw F σ H S Q' rp ex k => ?_⟩
  refine sa x ρ _ hw F σ H S _ rp ex fun d u H1 S1 q1 g1 h1 => ?_
  refine sb x ρ _ q1 F σ H1 S1 _ (rp.grow g1) (ex.grow g1) fun e v H2 S2 q2 g2 h2 => ?_
  have g12 := g1.trans g2
  have h1 := h1.grow g2
  unfold gIdx at q2
  split at q2
  · obtain ⟨d, hd, q⟩ := q2
    obtain ⟨p, vs, rfl, r, z⟩ := h1
    obtain ⟨y, hy, hz⟩ := atI_dats z hd
    exact .inl ⟨p, vs, _, y, rfl, h2.i, .of r, hy, k _ _ H2 S2 q g12 hz⟩
  · obtain ⟨d, hd, q⟩ := q2
    simp only [BDat, Dat] at h1
    obtain ⟨p, vs, rfl, r, z⟩ := h1
    obtain ⟨y, hy, hz⟩ := atI_dats z hd
    exact .inr (.inl ⟨p, vs, _, y, rfl, h2.i, .of (g12.sh _ _ r), hy, k _ _ H2 S2 q g12 hz⟩)
  · obtain ⟨d, hd, q⟩ := q2
    simp only [BDat, Dat] at h1
    obtain ⟨p, rfl, r⟩ := h1
    exact .inl ⟨p, _, _, .int d, rfl, h2.i, by rw [hK]; exact g12.sh.seq r, by rw [atI_map, hd]; rfl, k _ _ H2 S2 q g12 .i⟩
  · obtain ⟨hz, c, hc, q⟩ := q2
    exact .inr (.inr ⟨_, _, c, h1.s, h2.i, hz, hc, k _ _ H2 S2 q g12 .s⟩)
  · exact q2.elim

/-! ### slices -/
structure OD (X : Cx) (E : XK) (e : Option Expr) (w : XS → Ev → (Option Int → Prop) → Prop) : Prop where
  ex : ∃ t, PO X e t ∧ ∀ (x : XS) (ρ : Ev) (Q : Option Int → Prop), w x ρ Q → ∀ (F : Fr) (σ : L2.St) (H S : Hp) (Q' : Option Int → Hp → Prop), Rep F ρ σ H S → ExOk X.mg E x H S →
    (∀ o H' S', Q o → Grow H S H' S' → Q' o H') → t σ H Q'
abbrev WO := XS → Ev → (Option Int → Prop) → Prop
def woNone : WO := fun _ _ Q => Q none
def woSome (wa : WE) : WO := fun x ρ Q => wa x ρ fun d => match d with
  | .int i => Q (some i)
  | _ => False
theorem od_none : OD X E none woNone := ⟨_, po_none, fun x ρ Q hw F σ H S Q' rp ex k => k none H S hw (.refl rp.sh)⟩
theorem od_some (ha : BD X E a wa) : OD X E (some a) (woSome wa) := by
  obtain ⟨t, p, s⟩ := ha.ex
  refine ⟨_, po_some p, fun x ρ Q hw F σ H S Q' rp ex k => ?_⟩
  refine s x ρ _ hw F σ H S _ rp ex fun d u H1 S1 q1 g1 h1 => ?_
  cases d with
  | int i => exact ⟨i, h1.i, k _ H1 S1 q1 g1⟩
  | _ => exact q1.elim
def cut {α : Type} (xs : List α) (lo hi : Option Int) : List α := (xs.drop (HT.sIx xs.length 0 lo)).take (HT.sIx xs.length xs.length hi - HT.sIx xs.length 0 lo)
omit [KC] in
theorem cut_map {α β : Type} (f : α → β) (xs : List α) (lo hi : Option Int) : cut (xs.map f) lo hi = (cut xs lo hi).map f := by
  unfold cut
  rw [List.length_map, List.map_take, List.map_drop]
theorem cut_dats {S : Hp} {xs : List D} {vs : List V} (q : Dats S xs vs) (lo hi : Option Int) : Dats S (cut xs lo hi) (cutV vs lo hi) := by
  unfold cut cutV
  rw [q.len]
  exact (q.drop _).take _
variable {lo hi : Option Expr} {wo wh : XS → Ev → (Option Int → Prop) → Prop} {p2 : Pos}
def gSl : D → Option Int → Option Int → (D → Prop) → Prop
  | .lst xs, l, h, Q => Q (.lst (cut xs l h))
  | .scr ns, l, h, Q => Q (.lst ((cut ns l h).map D.int))
  | .str z, l, h, Q => z.length ≤ sizeLine ∧ Q (.str (cutS z l h))
  | .tup xs, l, h, Q => ¬ (HT.sIx xs.length 0 l = 0 ∧ HT.sIx xs.length xs.length h = xs.length) ∧ Q (.tup (cut xs l h))
  | _, _, _, _ => False
theorem lay_tup {H S : Hp} {xs : List D} {vs : List V} {p : Addr} (sh : Same S H) (hp : H p = none) (q : Dats S xs vs) :
    Grow H S (upd H p (.tup vs)) (upd S p (.tup vs)) ∧ Dat (upd S p (.tup vs)) (.tup xs) (.ref p) := by
  have h0 := sh.free hp
  refine ⟨((Grow.refl sh).lay hp).share hp h0 upd_same, ?_⟩
  unfold Dat
  exact ⟨p, vs, rfl, upd_same, Dats.mono (same_upd h0) _ _ q⟩
def wSl (wa : WE) (wo wh : WO) : WE := fun x ρ Q => wa x ρ fun d => wo x ρ fun l => wh x ρ fun h => gSl d l h Q
theorem ed_sl (ha : BD X E a wa) (hl : OD X E lo wo) (hh : OD X E hi wh) (hK : X.K = KC.K := by rfl) : ED X E (.Subscript a (.Slice lo hi none p2) pos) (wSl wa wo wh) := by
  obtain ⟨ta, pa, sa⟩ := ha.ex
  obtain ⟨tl, pl, sl⟩ := hl.ex
  obtain ⟨th, ph, sh⟩ := hh.ex
  refine ⟨_, pe_slice (sl_list.or (sl_str.or sl_tup)) pa pl ph, fun x ρ Q hw F σ H S Q' rp ex k => ?_⟩
  refine sa x ρ _ hw F σ H S _ rp ex fun d u H1 S1 q1 g1 h1 => ?_
  refine sl x ρ _ q1 F σ H1 S1 _ (rp.grow g1) (ex.grow g1) fun l H2 S2 q2 g2 => ?_
  have g12 := g1.trans g2
  refine sh x ρ _ q2 F σ H2 S2 _ (rp.grow g12) (ex.grow g12) fun h H3 S3 q3 g3 => ?_
  have g13 := g12.trans g3
  have h1 := (h1.grow g2).grow g3
  unfold gSl at q3
  split at q3
  · obtain ⟨p, vs, rfl, r, z⟩ := h1
    refine .inl ⟨p, vs, rfl, .of r, fun p hp => ?_⟩
    obtain ⟨g, y⟩ := lay_lst g13.sh hp (cut_dats z l h)
    exact k _ _ _ _ q3 (g13.trans g) y
  · simp only [BDat, Dat] at h1
    obtain ⟨p, rfl, r⟩ := h1
    refine .inl ⟨p, _, rfl, by rw [hK]; exact g13.sh.seq r, fun p hp => ?_⟩
    obtain ⟨g, y⟩ := lay_lst g13.sh hp (cut_dats (Dats.ints _) l h)
    rw [cut_map] at y
    exact k _ _ _ _ q3 (g13.trans g) y
  · exact .inr (.inl ⟨_, h1.s, q3.1, k _ _ H3 S3 q3.2 g13 .s⟩)
  · simp only [BDat, Dat] at h1
    obtain ⟨p, vs, rfl, r, z⟩ := h1
    refine .inr (.inr ⟨p, vs, rfl, .of (g13.sh _ _ r), by rw [z.len]; exact q3.1, fun p hp => ?_⟩)
    obtain ⟨g, y⟩ := lay_tup g13.sh hp (cut_dats z l h)
    exact k _ _ _ _ q3.2 (g13.trans g) y
  · exact q3.elim
def gSlF : D → Option Int → Option Int → (List D → Prop) → Prop
  | .lst xs, l, h, Q => Q (cut xs l h)
  | .scr ns, l, h, Q => Q ((cut ns l h).map D.int)
  | _, _, _, _ => False
def wSlF (wa : WE) (wo wh : WO) : WL := fun x ρ Q => wa x ρ fun d => wo x ρ fun l => wh x ρ fun h => gSlF d l h Q
theorem df_sl (ha : BD X E a wa) (hl : OD X E lo wo) (hh : OD X E hi wh) (hK : X.K = KC.K := by rfl) : DF X E (.Subscript a (.Slice lo hi none p2) pos) (wSlF wa wo wh) := by
  obtain ⟨ta, pa, sa⟩ := ha.ex
  obtain ⟨tl, pl, sl⟩ := hl.ex
  obtain ⟨th, ph, sh⟩ := hh.ex
  refine ⟨_, pe_slice sl_list pa pl ph, fun x ρ Q hw F σ H S Q' rp ex k => ?_⟩
  refine sa x ρ _ hw F σ H S _ rp ex fun d u H1 S1 q1 g1 h1 => ?_
  refine sl x ρ _ q1 F σ H1 S1 _ (rp.grow g1) (ex.grow g1) fun l H2 S2 q2 g2 => ?_
  have g12 := g1.trans g2
  refine sh x ρ _ q2 F σ H2 S2 _ (rp.grow g12) (ex.grow g12) fun h H3 S3 q3 g3 => ?_
  have g13 := g12.trans g3
  have h1 := (h1.grow g2).grow g3
  unfold gSlF at q3
  split at q3
  · obtain ⟨p, vs, rfl, r, z⟩ := h1
    exact ⟨p, vs, rfl, .of r, fun p hp => k _ p _ _ S3 q3 (g13.lay hp) (g13.freeH hp) (g13.freeS hp) upd_same (cut_dats z l h)⟩
  · simp only [BDat, Dat] at h1
    obtain ⟨p, rfl, r⟩ := h1
    refine ⟨p, _, rfl, by rw [hK]; exact g13.sh.seq r, fun p hp => ?_⟩
    refine k _ p _ _ S3 q3 (g13.lay hp) (g13.freeH hp) (g13.freeS hp) upd_same ?_
    rw [← cut_map]
    exact cut_dats (Dats.ints _) l h
  · exact q3.elim
end
end NL

namespace NL
open PySem PySem.Spec L2
open PyProof.Rows hiding St
variable [KC]

/-! ### built-in functions by data -/
section
variable {X : Cx}
structure CalD (X : Cx) (f : Value) (g : List D → (D → Prop) → Prop) : Prop where
  ex : ∃ r : List V → Hp → VK → Prop, CallR X f r ∧ ∀ (ds : List D) (Q : D → Prop), g ds Q → ∀ (H S : Hp) (vs : List V) (Q' : VK), Same S H → BDats H S ds vs →
    (∀ z y H' S', Q z → Grow H S H' S' → Dat S' z y → Q' y H') → r vs H Q'
structure CalF (X : Cx) (f : Value) (g : List D → (List D → Prop) → Prop) : Prop where
  ex : ∃ r : List V → Hp → VK → Prop, CallR X f r ∧ ∀ (ds : List D) (Q : List D → Prop), g ds Q → ∀ (H S : Hp) (vs : List V) (Q' : VK), Same S H → BDats H S ds vs →
    (∀ z ws p, Q z → H p = none → Dats S z ws → Q' (.ref p) (upd H p (.lst ws))) → r vs H Q'
def wB (g : List D → (D → Prop) → Prop) (wl : WL) : WE := fun x ρ Q => wl x ρ fun ds => g ds Q
def wBF (g : List D → (List D → Prop) → Prop) (wl : WL) : WL := fun x ρ Q => wl x ρ fun ds => g ds Q
variable {E : XK} {e a b : Expr} {es : List Expr} {pos p : Pos} {x m : Str} {w wa wb : WE} {wl : WL}
theorem ed_callB {id : String} {g : List D → (D → Prop) → Prop} (hc : CalD X (.builtin id) g) (hg : Gl X x) (hm : X.mg x = none) (hv : bootBuiltins x = some (.builtin id)) (ha : AB X E (e :: es) wl) (hn : x ≠ "__name__" := by decide)
    (hdb : (x == ("__debug__" : Str)) = false := by decide) (he : starEach (e :: es) X.env = (false, eval e X.env) :: starEach es X.env := by rfl) (hpl : (backTo pos (starEach es X.env)).any (·.1) = false := by rfl) :
    ED X E (.Call (.Name x p) (e :: es) [] pos) (wB g wl) := by
  obtain ⟨r, o, so⟩ := hc.ex
  obtain ⟨t, pt, s⟩ := ha.ex
  refine ⟨_, pe_callB o hg hm hv pt hn hdb he hpl, fun x ρ Q hw F σ H S Q' rp ex k => ?_⟩
  refine s x ρ _ hw F σ H S _ rp ex fun ds vs H1 S1 q1 g1 h1 => ?_
  exact so ds Q q1 H1 S1 vs Q' g1.sh h1 fun z y H2 S2 q2 g2 h2 => k z y H2 S2 q2 (g1.trans g2) h2
theorem ed_callT {T : String} {g : List D → (D → Prop) → Prop} (hc : CalD X (.type T) g) (hg : Gl X x) (hm : X.mg x = none) (hv : bootBuiltins x = some (.type T)) (ha : AB X E (e :: es) wl) (hn : x ≠ "__name__" := by decide)
    (hdb : (x == ("__debug__" : Str)) = false := by decide) (he : starEach (e :: es) X.env = (false, eval e X.env) :: starEach es X.env := by rfl) (hpl : (backTo pos (starEach es X.env)).any (·.1) = false := by rfl) :
    ED X E (.Call (.Name x p) (e :: es) [] pos) (wB g wl) := by
  obtain ⟨r, o, so⟩ := hc.ex
  obtain ⟨t, pt, s⟩ := ha.ex
  refine ⟨_, pe_callTy o hg hm hv pt hn hdb he hpl, fun x ρ Q hw F σ H S Q' rp ex k => ?_⟩
  refine s x ρ _ hw F σ H S _ rp ex fun ds vs H1 S1 q1 g1 h1 => ?_
  exact so ds Q q1 H1 S1 vs Q' g1.sh h1 fun z y H2 S2 q2 g2 h2 => k z y H2 S2 q2 (g1.trans g2) h2
theorem df_callB {id : String} {g : List D → (List D → Prop) → Prop} (hc : CalF X (.builtin id) g) (hg : Gl X x) (hm : X.mg x = none) (hv : bootBuiltins x = some (.builtin id)) (ha : AB X E (e :: es) wl) (hn : x ≠ "__name__" := by decide)
    (hdb : (x == ("__debug__" : Str)) = false := by decide) (he : starEach (e :: es) X.env = (false, eval e X.env) :: starEach es X.env := by rfl) (hpl : (backTo pos (starEach es X.env)).any (·.1) = false := by rfl) :
    DF X E (.Call (.Name x p) (e :: es) [] pos) (wBF g wl) := by
  obtain ⟨r, o, so⟩ := hc.ex
  obtain ⟨t, pt, s⟩ := ha.ex
  refine ⟨_, pe_callB o hg hm hv pt hn hdb he hpl, fun x ρ Q hw F σ H S Q' rp ex k => ?_⟩
  refine s x ρ _ hw F σ H S _ rp ex fun ds vs H1 S1 q1 g1 h1 => ?_
  exact so ds Q q1 H1 S1 vs Q' g1.sh h1 fun z ws p q2 hp h2 => k z p ws _ S1 q2 (g1.lay hp) (g1.freeH hp) (g1.freeS hp) upd_same h2
theorem df_callT {T : String} {g : List D → (List D → Prop) → Prop} (hc : CalF X (.type T) g) (hg : Gl X x) (hm : X.mg x = none) (hv : bootBuiltins x = some (.type T)) (ha : AB X E (e :: es) wl) (hn : x ≠ "__name__" := by decide)
    (hdb : (x == ("__debug__" : Str)) = false := by decide) (he : starEach (e :: es) X.env = (false, eval e X.env) :: starEach es X.env := by rfl) (hpl : (backTo pos (starEach es X.env)).any (·.1) = false := by rfl) :
    DF X E (.Call (.Name x p) (e :: es) [] pos) (wBF g wl) := by
  obtain ⟨r, o, so⟩ := hc.ex
  obtain ⟨t, pt, s⟩ := ha.ex
  refine ⟨_, pe_callTy o hg hm hv pt hn hdb he hpl, fun x ρ Q hw F σ H S Q' rp ex k => ?_⟩
  refine s x ρ _ hw F σ H S _ rp ex fun ds vs H1 S1 q1 g1 h1 => ?_
  exact so ds Q q1 H1 S1 vs Q' g1.sh h1 fun z ws p q2 hp h2 => k z p ws _ S1 q2 (g1.lay hp) (g1.freeH hp) (g1.freeS hp) upd_same h2

def gLen : List D → (D → Prop) → Prop
  | [.str s], Q => s.length ≤ sizeLine ∧ Q (.int s.length)
  | [.lst xs], Q => Q (.int xs.length)
  | [.tup xs], Q => Q (.int xs.length)
  | [.scr xs], Q => Q (.int xs.length)
  | [.dct ks xs], Q => Q (.int xs.length)
  | _, _ => False
theorem BDats.one {H S : Hp} {d : D} {vs : List V} (h : BDats H S [d] vs) : ∃ v, vs = [v] ∧ BDat H S d v := by
  obtain ⟨v, r, e, h1, h2⟩ := h
  unfold BDats at h2
  subst h2
  exact ⟨v, e, h1⟩
theorem BDats.two {H S : Hp} {d d' : D} {vs : List V} (h : BDats H S [d, d'] vs) : ∃ v v', vs = [v, v'] ∧ BDat H S d v ∧ BDat H S d' v' := by
  obtain ⟨v, r, e, h1, v', r', e', h2, h3⟩ := h
  unfold BDats at h3
  subst h3
  subst e'
  exact ⟨v, v', e, h1, h2⟩
theorem cLen (hK : X.K = KC.K := by rfl) : CalD X (.builtin "len") gLen := by
  refine ⟨_, call_len.or call_lenD, fun ds Q h H S vs Q' sh hd k => ?_⟩
  unfold gLen at h
  split at h
  · obtain ⟨v, rfl, hz⟩ := hd.one
    cases hz.s
    exact .inl ⟨_, _, rfl, ⟨h.1, rfl⟩, k _ _ H S h.2 (.refl sh) .i⟩
  · obtain ⟨v, rfl, hz⟩ := hd.one
    obtain ⟨a, ws, rfl, r, z⟩ := hz
    exact .inl ⟨_, _, rfl, .inl ⟨ws, .of r, rfl⟩, by rw [z.len]; exact k _ _ H S h (.refl sh) .i⟩
  · obtain ⟨v, rfl, hz⟩ := hd.one
    simp only [BDat, Dat] at hz
    obtain ⟨a, ws, rfl, r, z⟩ := hz
    exact .inl ⟨_, _, rfl, .inr ⟨ws, .of (sh _ _ r), rfl⟩, by rw [z.len]; exact k _ _ H S h (.refl sh) .i⟩
  · obtain ⟨v, rfl, hz⟩ := hd.one
    simp only [BDat, Dat] at hz
    obtain ⟨a, rfl, r⟩ := hz
    exact .inl ⟨_, _, rfl, .inl ⟨_, (by rw [hK]; exact sh.seq r), rfl⟩, by rw [List.length_map]; exact k _ _ H S h (.refl sh) .i⟩
  · obtain ⟨v, rfl, hz⟩ := hd.one
    obtain ⟨a, kvs, rfl, r, z1, z2⟩ := hz
    refine .inr ⟨a, kvs, rfl, r, ?_⟩
    have := z2.len
    rw [List.length_map] at this
    rw [this]
    exact k _ _ H S h (.refl sh) .i
  · exact h.elim
def gInt1 (f : Int → Int) : List D → (D → Prop) → Prop
  | [.int i], Q => Q (.int (f i))
  | _, _ => False
theorem cAbs : CalD X (.builtin "abs") (gInt1 fun i => if i < 0 then -i else i) := by
  refine ⟨_, call_abs, fun ds Q h H S vs Q' sh hd k => ?_⟩
  unfold gInt1 at h
  split at h
  · obtain ⟨v, rfl, hz⟩ := hd.one
    cases hz.i
    exact ⟨_, rfl, k _ _ H S h (.refl sh) .i⟩
  · exact h.elim
def gInt2 (f : Int → Int → Int) : List D → (D → Prop) → Prop
  | [.int i, .int j], Q => Q (.int (f i j))
  | _, _ => False
theorem cMax (hc : X.calm = true) : CalD X (.builtin "max") (gInt2 fun i j => if j > i then j else i) := by
  refine ⟨_, call_max2 hc, fun ds Q h H S vs Q' sh hd k => ?_⟩
  unfold gInt2 at h
  split at h
  · obtain ⟨v, v', rfl, h1, h2⟩ := hd.two
    cases h1.i
    cases h2.i
    exact ⟨_, _, rfl, k _ _ H S h (.refl sh) .i⟩
  · exact h.elim
theorem cMin (hc : X.calm = true) : CalD X (.builtin "min") (gInt2 fun i j => if j < i then j else i) := by
  refine ⟨_, call_min2 hc, fun ds Q h H S vs Q' sh hd k => ?_⟩
  unfold gInt2 at h
  split at h
  · obtain ⟨v, v', rfl, h1, h2⟩ := hd.two
    cases h1.i
    cases h2.i
    exact ⟨_, _, rfl, k _ _ H S h (.refl sh) .i⟩
  · exact h.elim
def gToInt : List D → (D → Prop) → Prop
  | [.int i], Q => Q (.int i)
  | [.bl b], Q => Q (.int (if b then 1 else 0))
  | _, _ => False
theorem cInt : CalD X (.type "int") gToInt := by
  refine ⟨_, call_int1, fun ds Q h H S vs Q' sh hd k => ?_⟩
  unfold gToInt at h
  split at h
  · obtain ⟨v, rfl, hz⟩ := hd.one
    cases hz.i
    exact .inl ⟨_, rfl, k _ _ H S h (.refl sh) .i⟩
  · obtain ⟨v, rfl, hz⟩ := hd.one
    cases hz.b
    exact .inr ⟨_, rfl, k _ _ H S h (.refl sh) .i⟩
  · exact h.elim
def gListF : List D → (List D → Prop) → Prop
  | [.lst xs], Q => Q xs
  | [.tup xs], Q => Q xs
  | [.scr ns], Q => Q (ns.map D.int)
  | _, _ => False
theorem cListF (hK : X.K = KC.K := by rfl) : CalF X (.type "list") gListF := by
  refine ⟨_, call_list_of, fun ds Q h H S vs Q' sh hd k => ?_⟩
  unfold gListF at h
  split at h
  · obtain ⟨v, rfl, hz⟩ := hd.one
    obtain ⟨a, ws, rfl, r, z⟩ := hz
    exact ⟨a, ws, rfl, .inl (.of r), fun l hl => k _ _ _ h hl z⟩
  · obtain ⟨v, rfl, hz⟩ := hd.one
    simp only [BDat, Dat] at hz
    obtain ⟨a, ws, rfl, r, z⟩ := hz
    exact ⟨a, ws, rfl, .inr (.of (sh _ _ r)), fun l hl => k _ _ _ h hl z⟩
  · obtain ⟨v, rfl, hz⟩ := hd.one
    simp only [BDat, Dat] at hz
    obtain ⟨a, rfl, r⟩ := hz
    exact ⟨a, _, rfl, .inl (by rw [hK]; exact sh.seq r), fun l hl => k _ _ _ h hl (Dats.ints _)⟩
  · exact h.elim

/-! ### isinstance of a built-in type -/
def tyName : D → Option String
  | .non => some "NoneType"
  | .bl _ => some "bool"
  | .int _ => some "int"
  | .str _ => some "str"
  | .lst _ => some "list"
  | .tup _ => some "tuple"
  | .dct _ _ => some "dict"
  | _ => none
theorem tyName_sound {H S : Hp} {d : D} {v : V} {K : PySem.W.Frag} {n : String} (sh : Same S H) (h : BDat H S d v) (e : tyName d = some n) : TyX K H v (.type n) := by
  cases d with
  | non => cases e; cases h.n; exact .base .non
  | bl b => cases e; cases h.b; exact .base (.bl b)
  | int i => cases e; cases h.i; exact .base (.int i)
  | str s => cases e; cases h.s; exact .base (.str s)
  | lst xs => cases e; obtain ⟨a, vs, rfl, r, _⟩ := h; exact .base (.lst r)
  | scr ns => cases e
  | tup xs =>
    cases e
    simp only [BDat, Dat] at h
    obtain ⟨a, vs, rfl, r, _⟩ := h
    exact .base (.tup (sh _ _ r))
  | dct ks xs => cases e; obtain ⟨a, vs, rfl, r, _⟩ := h; exact .base (.dK r)
  | ref a => cases e
  | obj _ _ _ => cases e
  | dkz _ _ => cases e
def gIsT (T : String) (d : D) (Q : D → Prop) : Prop := ∃ n, tyName d = some n ∧ ∃ b, kitB n T = some b ∧ Q (.bl b)
def wIsT (T : String) (wa : WE) : WE := fun x ρ Q => wa x ρ fun d => gIsT T d Q
theorem ed_isT {T : String} {y : Str} {p2 : Pos} (hg : Gl X "isinstance") (hm : X.mg "isinstance" = none) (hgT : Gl X y) (hmT : X.mg y = none) (hvT : bootBuiltins y = some (.type T)) (ha : BD X E a wa)
    (hn : y ≠ "__name__" := by decide) (hd : (y == ("__debug__" : Str)) = false := by decide)
    (he : starEach (a :: [.Name y p2]) X.env = (false, eval a X.env) :: starEach [.Name y p2] X.env := by rfl) (he2 : starEach [.Name y p2] X.env = (false, eval (.Name y p2) X.env) :: starEach [] X.env := by rfl) (hpl : (backTo pos (starEach [.Name y p2] X.env)).any (·.1) = false := by rfl) :
    ED X E (.Call (.Name "isinstance" p) [a, .Name y p2] [] pos) (wIsT T wa) := by
  obtain ⟨t, pt, s⟩ := ha.ex
  have pT : PE X (.Name y p2) (tC (.ty T)) := pe_bltn hgT hmT hvT rfl hn hd
  refine ⟨_, pe_callB call_isi hg hm (by decide +kernel) (pa_cons pt (pa_cons pT pa_nil he2) he) (by decide) (by decide) he hpl, fun x ρ Q hw F σ H S Q' rp ex k => ?_⟩
  refine s x ρ _ hw F σ H S _ rp ex fun d u H1 S1 q1 g1 h1 => ?_
  obtain ⟨n, e1, b, e2, q⟩ := q1
  exact ⟨u, .ty T, .type n, .type T, b, rfl, .ty T, tyName_sound g1.sh h1 e1, kit_ty e2, k _ _ H1 S1 q g1 .b⟩

/-! ### a def's promise by data -/
inductive Rt where
  | val (d : D) | new (c : Cn) | newT (d : D)
/-- a new tuple; what it refers to is new, each but once -/
def FreshT (H S' : Hp) (v : V) : Prop := ∃ p vs, v = .ref p ∧ H p = none ∧ S' p = some (.tup vs) ∧ (∀ a, V.ref a ∈ vs → H a = none) ∧ ∀ (i j : Nat) (a : Addr), vs[i]? = some (V.ref a) → vs[j]? = some (V.ref a) → i = j
abbrev Spec := List D → XS → (Rt → Prop) → Prop
def RtP (H H' S' : Hp) : Rt → V → Prop
  | .val d, v => Dat S' d v
  | .new c, v => ∃ p o, v = .ref p ∧ H p = none ∧ S' p = none ∧ H' p = some o ∧ CnOk S' c o
  | .newT d, v => Dat S' d v ∧ FreshT H S' v
def spOf (mg : Str → Option Value) (sp : Spec) : Sp := fun vs H Q E => ∃ ds S x R, (Same S H ∧ Tbq S H) ∧ Dats S ds vs ∧ sp ds x R ∧
  (∀ r v H' S', R r → Grow H S H' S' → RtP H H' S' r v → Q v H') ∧ (∀ n C H' S', x n → mg n = some (.ref C) → Grow H S H' S' → E (.ref C) none H')
def Rt.d : Rt → D
  | .val d => d
  | .new c => c.d
  | .newT d => d
/-- a def is asked; what comes behind is not looked at -/
def Ask (sp : Spec) (ds : List D) (x : XS) (K : Rt → Prop) (_ : Tg K) : Prop := sp ds x K
def wCall (sp : Spec) (wl : WL) : WE := fun x ρ Q => wl x ρ fun ds => Ask sp ds x (fun r => Q r.d) ⟨⟩
theorem RtP.dat {H S H' S' : Hp} (g : Grow H S H' S') : ∀ {r : Rt} {v : V}, RtP H H' S' r v → ∃ S2, Grow H S H' S2 ∧ Dat S2 r.d v
  | .val d, v, h => ⟨S', g, h⟩
  | .newT d, v, h => ⟨S', g, h.1⟩
  | .new c, v, ⟨p, o, e, h0, h1, h2, h3⟩ => ⟨upd S' p o, g.share h0 h1 h2, by
      subst e
      exact CnOk.dat upd_same (h3.mono (same_upd h1))⟩
variable {k : Nat} {f : Addr} {fd : FuncData} {ps : List Str} {sp : Spec}
theorem ed_call (G : FnOk X.prog X.w X.K X.mg X.base (L2N.CX X.prog X.w) k f fd ps (spOf X.mg sp)) (hr : Room k X.A) (xk : XOk X E) (hg : Gl X x) (hm : X.mg x = some (.ref f)) (hk : PySem.W.keepIn X.K (.ref f) = true) (hb : Binds X.K fd ps [])
    (ha : AD X E (e :: es) wl) (hdb : (x == ("__debug__" : Str)) = false := by decide) (he : starEach (e :: es) X.env = (false, eval e X.env) :: starEach es X.env := by rfl) (hpl : (backTo pos (starEach es X.env)).any (·.1) = false := by rfl) :
    ED X E (.Call (.Name x p) (e :: es) [] pos) (wCall sp wl) := by
  obtain ⟨t, pt, s⟩ := ha.ex
  refine ⟨_, pe_call G hr hg hm hk hb .nil xk.pass pt hdb he hpl, fun x ρ Q hw F σ H S Q' rp ex k => ?_⟩
  refine s x ρ _ hw F σ H S _ rp ex fun ds vs H1 S1 q1 g1 h1 => ?_
  refine ⟨ds, S1, x, _, ⟨g1.sh, (rp.grow g1).fg.tb⟩, by rw [List.append_nil]; exact h1, q1, fun r v H2 S2 q2 g2 h2 => ?_, fun n C H2 S2 xn hC g2 => ex n C H2 S2 xn hC (g1.trans g2)⟩
  obtain ⟨S3, g3, h3⟩ := h2.dat g2
  exact k _ _ H2 S3 q2 (g1.trans g3) h3
theorem ed_call0 (G : FnOk X.prog X.w X.K X.mg X.base (L2N.CX X.prog X.w) k f fd ps (spOf X.mg sp)) (hr : Room k X.A) (xk : XOk X E) (hg : Gl X x) (hm : X.mg x = some (.ref f)) (hk : PySem.W.keepIn X.K (.ref f) = true) (hb : Binds X.K fd ps [])
    (hdb : (x == ("__debug__" : Str)) = false := by decide) : ED X E (.Call (.Name x p) [] [] pos) (wCall sp wNil) := by
  refine ⟨_, pe_call0 G hr hg hm hk hb .nil xk.pass hdb, fun x ρ Q hw F σ H S Q' rp ex k => ?_⟩
  refine ⟨[], S, x, _, ⟨rp.sh, rp.fg.tb⟩, .nil, hw, fun r v H2 S2 q2 g2 h2 => ?_, fun n C H2 S2 xn hC g2 => ex n C H2 S2 xn hC g2⟩
  obtain ⟨S3, g3, h3⟩ := h2.dat g2
  exact k _ _ H2 S3 q2 g3 h3
/-- a call whose result is a new list, nobody else's -/
def onNew (Q : List D → Prop) : Rt → Prop
  | .new (.lst xs) => Q xs
  | _ => False
def wCallF (sp : Spec) (wl : WL) : WL := fun x ρ Q => wl x ρ fun ds => Ask sp ds x (onNew Q) ⟨⟩
theorem df_call (G : FnOk X.prog X.w X.K X.mg X.base (L2N.CX X.prog X.w) k f fd ps (spOf X.mg sp)) (hr : Room k X.A) (xk : XOk X E) (hg : Gl X x) (hm : X.mg x = some (.ref f)) (hk : PySem.W.keepIn X.K (.ref f) = true) (hb : Binds X.K fd ps [])
    (ha : AD X E (e :: es) wl) (hdb : (x == ("__debug__" : Str)) = false := by decide) (he : starEach (e :: es) X.env = (false, eval e X.env) :: starEach es X.env := by rfl) (hpl : (backTo pos (starEach es X.env)).any (·.1) = false := by rfl) :
    DF X E (.Call (.Name x p) (e :: es) [] pos) (wCallF sp wl) := by
  obtain ⟨t, pt, s⟩ := ha.ex
  refine ⟨_, pe_call G hr hg hm hk hb .nil xk.pass pt hdb he hpl, fun x ρ Q hw F σ H S Q' rp ex k => ?_⟩
  refine s x ρ _ hw F σ H S _ rp ex fun ds vs H1 S1 q1 g1 h1 => ?_
  refine ⟨ds, S1, x, _, ⟨g1.sh, (rp.grow g1).fg.tb⟩, by rw [List.append_nil]; exact h1, q1, fun r v H2 S2 q2 g2 h2 => ?_, fun n C H2 S2 xn hC g2 => ex n C H2 S2 xn hC (g1.trans g2)⟩
  cases r with
  | val d => exact q2.elim
  | newT d => exact q2.elim
  | new c =>
    cases c with
    | dct _ _ => exact q2.elim
    | obj _ _ _ => exact q2.elim
    | lst xs =>
      obtain ⟨p, o, rfl, z0, z1, z2, ws, rfl, z3⟩ := h2
      exact k xs p ws H2 S2 q2 (g1.trans g2) (g1.freeH z0) z1 z2 z3
/-! a call with things that a slot owns: they are read, and none of them is in what comes back -/
mutual
def nl : D → Bool
  | .tup xs => nls xs
  | .lst _ => false
  | .dct _ _ => false
  | .dkz _ _ => false
  | .obj _ _ _ => false
  | .scr _ => false
  | _ => true
def nls : List D → Bool
  | [] => true
  | x :: xs => nl x && nls xs
end
def tops : List V → Addr → Bool
  | [], _ => false
  | .ref p :: r, a => (p == a) || tops r a
  | _ :: r, a => tops r a
open Classical in
noncomputable def plusS (H S : Hp) (vs : List V) : Hp := fun a => if S a = none ∧ tops vs a = true ∧ ∃ o, H a = some o ∧ (∀ xs, o ≠ .tup xs) ∧ (∀ ps, o ≠ .tbl ps) then H a else S a
open Classical in
noncomputable def minusS (H S S' : Hp) (vs : List V) : Hp := fun a => if S a = none ∧ tops vs a = true ∧ ∃ o, H a = some o ∧ (∀ xs, o ≠ .tup xs) ∧ (∀ ps, o ≠ .tbl ps) then none else S' a
theorem plus_same {H S : Hp} {vs : List V} : Same S (plusS H S vs) := fun a o h => by
  unfold plusS
  rw [if_neg (fun z => by rw [z.1] at h; cases h)]
  exact h
theorem plus_sh {H S : Hp} {vs : List V} (sh : Same S H) : Same (plusS H S vs) H := fun a o h => by
  unfold plusS at h
  split at h
  · exact h
  · exact sh a o h
theorem plus_in {H S : Hp} {vs : List V} {p : Addr} {o : HO} (sh : Same S H) (h : H p = some o) (ht : tops vs p = true) (ho : ∀ xs, o ≠ .tup xs) (hb : ∀ ps, o ≠ .tbl ps) : plusS H S vs p = some o := by
  unfold plusS
  by_cases c : S p = none
  · rw [if_pos ⟨c, ht, o, h, ho, hb⟩]
    exact h
  · rw [if_neg (fun z => c z.1)]
    cases q : S p with
    | none => exact absurd q c
    | some u =>
      have := sh p u q
      rw [h] at this
      exact this.symm
theorem plus_dats {H S : Hp} (sh : Same S H) : ∀ {ds : List D} {vs ws : List V}, BDats H S ds vs → (∀ a, tops vs a = true → tops ws a = true) → Dats (plusS H S ws) ds vs
  | [], vs, ws, h, _ => by unfold BDats at h; subst h; exact .nil
  | d :: ds, vs, ws, ⟨v, r, e, h, q⟩, ht => by
    subst e
    refine .cons ?_ (plus_dats sh q fun a ha => ht a ?_)
    · cases d with
      | lst xs =>
        obtain ⟨a, us, rfl, ra, z⟩ := h
        exact .lstOf (plus_in sh ra (ht a (by simp [tops])) (fun _ z => by cases z) (fun _ z => by cases z)) (Dats.mono plus_same _ _ z)
      | dct ks xs =>
        obtain ⟨a, us, rfl, ra, z1, z2⟩ := h
        unfold Dat
        exact ⟨a, us, rfl, plus_in sh ra (ht a (by simp [tops])) (fun _ z => by cases z) (fun _ z => by cases z), z1, Dats.mono plus_same _ _ z2⟩
      | non => exact Dat.mono plus_same .non v h
      | bl b => exact Dat.mono plus_same (.bl b) v h
      | int b => exact Dat.mono plus_same (.int b) v h
      | str b => exact Dat.mono plus_same (.str b) v h
      | ref b => exact Dat.mono plus_same (.ref b) v h
      | dkz ks b => exact Dat.mono plus_same (.dkz ks b) v h
      | obj c fs xs =>
        obtain ⟨a, dx, us, rfl, ra, z1, z2⟩ := h
        unfold Dat
        exact ⟨a, dx, us, rfl, plus_in sh ra (ht a (by simp [tops])) (fun _ z => by cases z) (fun _ z => by cases z), z1, Dats.mono plus_same _ _ z2⟩
      | scr b => exact Dat.mono plus_same (.scr b) v h
      | tup b => exact Dat.mono plus_same (.tup b) v h
    · cases v <;> simp_all [tops]
theorem plus_tb {H S : Hp} {vs : List V} (t : Tbq S H) : Tbq (plusS H S vs) H := ⟨t.1, fun x hx => by
  obtain ⟨ps, h2, _⟩ := t.1 x hx
  unfold plusS
  rw [if_neg (fun ⟨_, _, o, ho, _, n⟩ => n ps (Option.some.inj (ho.symm.trans h2)))]
  exact t.2 x hx⟩
theorem minus_grow {H S H' S' : Hp} {vs : List V} (sh : Same S H) (g : Grow H (plusS H S vs) H' S') : Grow H S H' (minusS H S S' vs) := by
  refine ⟨g.hh, fun a o h => ?_, fun a o h => ?_, fun a ha => ?_⟩
  · unfold minusS
    rw [if_neg (fun z => by rw [z.1] at h; cases h)]
    exact g.ss a o (plus_same a o h)
  · unfold minusS at h
    split at h
    · cases h
    · exact g.sh a o h
  · unfold minusS
    split
    · rename_i z
      exact z.1.symm
    · rename_i z
      rw [g.nw a ha]
      unfold plusS
      rw [if_neg z]
mutual
theorem minus_dat {H S H' S' : Hp} {vs : List V} (g : Grow H (plusS H S vs) H' S') : ∀ (d : D) (v : V), nl d = true → Dat S' d v → Dat (minusS H S S' vs) d v
  | .non, v, _, h => by unfold Dat at h ⊢; exact h
  | .bl _, v, _, h => by unfold Dat at h ⊢; exact h
  | .int _, v, _, h => by unfold Dat at h ⊢; exact h
  | .str _, v, _, h => by unfold Dat at h ⊢; exact h
  | .ref _, v, _, h => by unfold Dat at h ⊢; exact h
  | .scr _, v, n, _ => by simp [nl] at n
  | .lst _, v, n, _ => by simp [nl] at n
  | .dct _ _, v, n, _ => by simp [nl] at n
  | .dkz _ _, v, n, _ => by simp [nl] at n
  | .obj _ _ _, v, n, _ => by simp [nl] at n
  | .tup xs, v, n, h => by
    unfold Dat at h ⊢
    obtain ⟨a, ws, e, r, z⟩ := h
    refine ⟨a, ws, e, ?_, minus_dats g xs ws (by simpa [nl] using n) z⟩
    unfold minusS
    rw [if_neg]
    · exact r
    · rintro ⟨z1, z2, o, ho, hn⟩
      have e1 : plusS H S vs a = some o := by
        unfold plusS
        rw [if_pos ⟨z1, z2, o, ho, hn⟩]
        exact ho
      have e2 := g.ss a o e1
      rw [r] at e2
      cases e2
      exact hn.1 ws rfl
theorem minus_dats {H S H' S' : Hp} {vs : List V} (g : Grow H (plusS H S vs) H' S') : ∀ (xs : List D) (ws : List V), nls xs = true → Dats S' xs ws → Dats (minusS H S S' vs) xs ws
  | [], _, _, h => by unfold Dats at h ⊢; exact h
  | x :: xs, _, n, h => by
    unfold Dats at h ⊢
    obtain ⟨v, r, e, h1, h2⟩ := h
    have n' : nl x = true ∧ nls xs = true := by simpa [nls] using n
    exact ⟨v, r, e, minus_dat g x v n'.1 h1, minus_dats g xs r n'.2 h2⟩
end
def nlR : Rt → Bool
  | .val d => nl d
  | .new (.lst xs) => nls xs
  | .new (.dct _ xs) => false
  | .new (.obj _ _ xs) => false
  | .newT d => nl d
theorem minus_rt {H S H' S' : Hp} {vs : List V} (g : Grow H (plusS H S vs) H' S') : ∀ {r : Rt} {v : V}, nlR r = true → RtP H H' S' r v → RtP H H' (minusS H S S' vs) r v
  | .val d, v, n, h => minus_dat g d v n h
  | .new (.dct _ _), v, n, _ => by cases n
  | .new (.obj _ _ _), v, n, _ => by cases n
  | .newT d, v, n, ⟨h, p, us, e, h0, h1, h2⟩ => ⟨minus_dat g d v n h, p, us, e, h0, by
      unfold minusS
      rw [if_neg (fun z => by
        obtain ⟨_, _, o, z, w⟩ := z
        have := g.sh p _ h1
        by_cases y : H p = none
        · rw [y] at z; cases z
        · exact y h0)]
      exact h1, h2⟩
  | .new (.lst xs), v, n, ⟨p, o, e, h0, h1, h2, ws, h3, h4⟩ => by
    refine ⟨p, o, e, h0, ?_, h2, ws, h3, minus_dats g xs ws n h4⟩
    unfold minusS
    split
    · rfl
    · exact h1
def wCallN (sp : Spec) (wl : WL) : WE := fun x ρ Q => wl x ρ fun ds => Ask sp ds x (fun r => nlR r = true ∧ Q r.d) ⟨⟩
def wCallNF (sp : Spec) (wl : WL) : WL := fun x ρ Q => wl x ρ fun ds => Ask sp ds x (onNew fun xs => nls xs = true ∧ Q xs) ⟨⟩
theorem ed_callN (G : FnOk X.prog X.w X.K X.mg X.base (L2N.CX X.prog X.w) k f fd ps (spOf X.mg sp)) (hr : Room k X.A) (xk : XOk X E) (hg : Gl X x) (hm : X.mg x = some (.ref f)) (hk : PySem.W.keepIn X.K (.ref f) = true) (hb : Binds X.K fd ps [])
    (ha : AB X E (e :: es) wl) (hdb : (x == ("__debug__" : Str)) = false := by decide) (he : starEach (e :: es) X.env = (false, eval e X.env) :: starEach es X.env := by rfl) (hpl : (backTo pos (starEach es X.env)).any (·.1) = false := by rfl) :
    ED X E (.Call (.Name x p) (e :: es) [] pos) (wCallN sp wl) := by
  obtain ⟨t, pt, s⟩ := ha.ex
  refine ⟨_, pe_call G hr hg hm hk hb .nil xk.pass pt hdb he hpl, fun x ρ Q hw F σ H S Q' rp ex k => ?_⟩
  refine s x ρ _ hw F σ H S _ rp ex fun ds vs H1 S1 q1 g1 h1 => ?_
  refine ⟨ds, plusS H1 S1 vs, x, _, ⟨plus_sh g1.sh, plus_tb (rp.grow g1).fg.tb⟩, by rw [List.append_nil]; exact plus_dats g1.sh h1 fun _ h => h, q1, fun r v H2 S2 q2 g2 h2 => ?_, fun n C H2 S2 xn hC g2 => ex n C H2 _ xn hC (g1.trans (minus_grow g1.sh g2))⟩
  obtain ⟨S3, g3, h3⟩ := (minus_rt g2 q2.1 h2).dat (minus_grow g1.sh g2)
  exact k _ _ H2 S3 q2.2 (g1.trans g3) h3
theorem df_callN (G : FnOk X.prog X.w X.K X.mg X.base (L2N.CX X.prog X.w) k f fd ps (spOf X.mg sp)) (hr : Room k X.A) (xk : XOk X E) (hg : Gl X x) (hm : X.mg x = some (.ref f)) (hk : PySem.W.keepIn X.K (.ref f) = true) (hb : Binds X.K fd ps [])
    (ha : AB X E (e :: es) wl) (hdb : (x == ("__debug__" : Str)) = false := by decide) (he : starEach (e :: es) X.env = (false, eval e X.env) :: starEach es X.env := by rfl) (hpl : (backTo pos (starEach es X.env)).any (·.1) = false := by rfl) :
    DF X E (.Call (.Name x p) (e :: es) [] pos) (wCallNF sp wl) := by
  obtain ⟨t, pt, s⟩ := ha.ex
  refine ⟨_, pe_call G hr hg hm hk hb .nil xk.pass pt hdb he hpl, fun x ρ Q hw F σ H S Q' rp ex k => ?_⟩
  refine s x ρ _ hw F σ H S _ rp ex fun ds vs H1 S1 q1 g1 h1 => ?_
  refine ⟨ds, plusS H1 S1 vs, x, _, ⟨plus_sh g1.sh, plus_tb (rp.grow g1).fg.tb⟩, by rw [List.append_nil]; exact plus_dats g1.sh h1 fun _ h => h, q1, fun r v H2 S2 q2 g2 h2 => ?_, fun n C H2 S2 xn hC g2 => ex n C H2 _ xn hC (g1.trans (minus_grow g1.sh g2))⟩
  cases r with
  | val d => exact q2.elim
  | newT d => exact q2.elim
  | new c =>
    cases c with
    | dct _ _ => exact q2.elim
    | obj _ _ _ => exact q2.elim
    | lst xs =>
      obtain ⟨p, o, rfl, z0, z1, z2, ws, rfl, z3⟩ := minus_rt (r := .new (.lst xs)) g2 q2.1 h2
      exact k xs p ws H2 _ q2.2 (g1.trans (minus_grow g1.sh g2)) (g1.freeH z0) z1 z2 z3
end
end NL

namespace NL
open PySem PySem.Spec L2
open PyProof.Rows hiding St
variable [KC]

/-! ### the readings that a data word gives, in any context -/
def canE (mg : Str → Option Value) (E : XK) (w : WE) : TE := fun σ H Q' => ∃ (x : XS) (ρ : Ev) (Q : D → Prop) (F : Fr) (S : Hp), w x ρ Q ∧ Rep F ρ σ H S ∧ ExOk mg E x H S ∧ ∀ d v H' S', Q d → Grow H S H' S' → Dat S' d v → Q' v H'
def canT (mg : Str → Option Value) (E : XK) (w : WT) : TT := fun σ H Q' => ∃ (x : XS) (ρ : Ev) (Q : Bool → Prop) (F : Fr) (S : Hp), w x ρ Q ∧ Rep F ρ σ H S ∧ ExOk mg E x H S ∧ ∀ b H' S', Q b → Grow H S H' S' → Q' b H'
theorem ED.can {X : Cx} {E : XK} {e : Expr} {w : WE} (h : ED X E e w) : PE X e (canE X.mg E w) := by
  obtain ⟨t, p, s⟩ := h.ex
  refine ⟨fun pins st σ H Q I hq => ?_⟩
  obtain ⟨x, ρ, Q2, F, S, h1, h2, h3, h4⟩ := hq
  exact p.run pins st σ H Q I (s x ρ Q2 h1 F σ H S Q h2 h3 h4)
theorem TD.can {X : Cx} {E : XK} {e : Expr} {w : WT} (h : TD X E e w) : PT X e (canT X.mg E w) := by
  obtain ⟨t, p, s⟩ := h.ex
  refine ⟨fun pins st σ H Q I hq => ?_⟩
  obtain ⟨x, ρ, Q2, F, S, h1, h2, h3, h4⟩ := hq
  exact p.run pins st σ H Q I (s x ρ Q2 h1 F σ H S Q h2 h3 h4)

/-! ### targets -/
theorem wipe_get (σ : L2.St) (j : Nat) : ∀ vs : List Nat, (wipe σ vs)[j]? = if j ∈ vs then σ[j]?.map (fun _ => none) else σ[j]?
  | [] => by simp [wipe]
  | v :: vs => by
    have ih := wipe_get σ j vs
    unfold wipe
    by_cases h : v = j
    · subst h
      rw [List.getElem?_set, if_pos rfl, wipe_length, if_pos (show v ∈ v :: vs by simp)]
      by_cases hl : v < σ.length
      · rw [if_pos hl, List.getElem?_eq_getElem hl]; rfl
      · rw [if_neg hl, List.getElem?_eq_none (by omega)]; rfl
    · rw [List.getElem?_set_ne h, ih]
      have : (j ∈ v :: vs) ↔ j ∈ vs := by
        rw [List.mem_cons]
        exact ⟨fun z => z.elim (fun z => absurd z.symm h) id, .inr⟩
      simp only [this]
theorem wipe_set {σ : L2.St} {i : Nat} {x : Option V} {vs : List Nat} (h : i ∈ vs) : wipe (σ.set i x) vs = wipe σ vs := by
  apply List.ext_getElem?
  intro j
  rw [wipe_get, wipe_get]
  by_cases hj : j ∈ vs
  · rw [if_pos hj, if_pos hj]
    by_cases e : i = j
    · subst e
      rw [List.getElem?_set, if_pos rfl]
      by_cases hl : i < σ.length
      · rw [if_pos hl, List.getElem?_eq_getElem hl]; rfl
      · rw [if_neg hl, List.getElem?_eq_none (by omega)]
    · rw [List.getElem?_set_ne e]
  · rw [if_neg hj, if_neg hj, List.getElem?_set_ne (fun e => hj (by rw [← e]; exact h))]
theorem wipe_wipe {σ : L2.St} {vs : List Nat} : wipe (wipe σ vs) vs = wipe σ vs := by
  apply List.ext_getElem?
  intro j
  rw [wipe_get, wipe_get]
  by_cases hj : j ∈ vs
  · rw [if_pos hj, if_pos hj]
    cases σ[j]? <;> rfl
  · rw [if_neg hj, if_neg hj]
def wipeE (ρ : Ev) : List Nat → Ev
  | [] => ρ
  | v :: vs => (wipeE ρ vs).set v .un
theorem Rep.wipe {F : Fr} {ρ : Ev} {σ : L2.St} {H S : Hp} (r : Rep F ρ σ H S) : ∀ vs : List Nat, Rep F (wipeE ρ vs) (L2.wipe σ vs) H S
  | [] => r
  | v :: vs => (r.wipe vs).unset
abbrev WG := D → Ev → (Ev → Prop) → Prop
structure GD (X : Cx) (tg : Expr) (is : List Nat) (g : WG) : Prop where
  ex : ∃ t, PG X tg t ∧ ∀ (d : D) (ρ : Ev) (Q : Ev → Prop), g d ρ Q → ∀ (F : Fr) (σ : L2.St) (H S : Hp) (v : V) (Q' : L2.St → Hp → Prop), Rep F ρ σ H S → Dat S d v →
    (∀ ρ' σ', Q ρ' → Rep F ρ' σ' H S → (∀ vs : List Nat, (∀ i ∈ is, i ∈ vs) → wipe σ' vs = wipe σ vs) → Q' σ' H) → t v σ H Q'
abbrev WGs := List D → Ev → (Ev → Prop) → Prop
structure GDs (X : Cx) (tgs : List Expr) (is : List Nat) (g : WGs) : Prop where
  ex : ∃ t, PGs X tgs t ∧ ∀ (ds : List D) (ρ : Ev) (Q : Ev → Prop), g ds ρ Q → ∀ (F : Fr) (σ : L2.St) (H S : Hp) (vs : List V) (Q' : L2.St → Hp → Prop), Rep F ρ σ H S → Dats S ds vs →
    (∀ ρ' σ', Q ρ' → Rep F ρ' σ' H S → (∀ vs : List Nat, (∀ i ∈ is, i ∈ vs) → wipe σ' vs = wipe σ vs) → Q' σ' H) → t vs σ H Q'
def canG (g : WG) (is : List Nat) : TG := fun v σ H Q' => ∃ (d : D) (ρ : Ev) (Q : Ev → Prop) (F : Fr) (S : Hp), g d ρ Q ∧ Rep F ρ σ H S ∧ Dat S d v ∧ ∀ ρ' σ', Q ρ' → Rep F ρ' σ' H S → (∀ vs : List Nat, (∀ i ∈ is, i ∈ vs) → wipe σ' vs = wipe σ vs) → Q' σ' H
section
variable {X : Cx} {E : XK} {pos : Pos}
theorem GD.can {tg : Expr} {is : List Nat} {g : WG} (h : GD X tg is g) : PG X tg (canG g is) := by
  obtain ⟨t, p, s⟩ := h.ex
  refine ⟨fun pins st σ H v u Q I r hq => ?_⟩
  obtain ⟨d, ρ, Q2, F, S, h1, h2, h3, h4⟩ := hq
  exact p.run pins st σ H v u Q I r (s d ρ Q2 h1 F σ H S v Q h2 h3 h4)
def wgName (i : Nat) : WG := fun d ρ Q => Q (ρ.set i (.fz d))
theorem gd_name (i : Nat) {x : Str} (hN : X.N.Nodup) (hi : X.N[i]? = some x := by rfl) (hx : Loc X.env.scope x := by first | exact Or.inl rfl | exact Or.inr rfl) (hf : X.fn x = true ∨ X.env.scope.names.lookup x = some .local := by first | exact .inl rfl | exact .inr rfl) : GD X (.Name x pos) [i] (wgName i) :=
  ⟨_, pg_name hN hi hx hf, fun d ρ Q hw F σ H S v Q' rp hd k => k _ _ hw (rp.set hd) fun vs h => wipe_set (h i (by simp))⟩
def wgNil : WGs := fun ds ρ Q => match ds with
  | [] => Q ρ
  | _ => False
def wgCons (g : WG) (gs : WGs) : WGs := fun ds ρ Q => match ds with
  | d :: r => g d ρ fun ρ1 => gs r ρ1 Q
  | _ => False
theorem gds_nil : GDs X [] [] wgNil := by
  refine ⟨_, pgs_nil, fun ds ρ Q hw F σ H S vs Q' rp hd k => ?_⟩
  cases ds with
  | nil =>
    unfold Dats at hd
    exact ⟨hd, k _ _ hw rp fun _ _ => rfl⟩
  | cons _ _ => exact hw.elim
theorem gds_cons {e : Expr} {es : List Expr} {is js : List Nat} {g : WG} {gs : WGs} (h1 : GD X e is g) (h2 : GDs X es js gs)
    (hs : (assignEach (e :: es) X.env).map (·.2) = assign e X.env :: (assignEach es X.env).map (·.2) := by rfl) : GDs X (e :: es) (is ++ js) (wgCons g gs) := by
  obtain ⟨t, p, s⟩ := h1.ex
  obtain ⟨t', p', s'⟩ := h2.ex
  refine ⟨_, pgs_cons p p' hs, fun ds ρ Q hw F σ H S vs Q' rp hd k => ?_⟩
  cases ds with
  | nil => exact hw.elim
  | cons d r =>
    unfold Dats at hd
    obtain ⟨v, ws, e, q1, q2⟩ := hd
    refine ⟨v, ws, e, s d ρ _ hw F σ H S v _ rp q1 fun ρ1 σ1 h1 r1 w1 => s' r ρ1 _ h1 F σ1 H S ws _ r1 q2 fun ρ2 σ2 h2 r2 w2 => k _ _ h2 r2 fun vs hv => ?_⟩
    rw [w2 vs (fun i hi => hv i (List.mem_append_right _ hi)), w1 vs (fun i hi => hv i (List.mem_append_left _ hi))]
def wgTup (n : Nat) (gs : WGs) : WG := fun d ρ Q => match d with
  | .tup ds => ds.length = n ∧ gs ds ρ Q
  | _ => False
theorem gd_tup {es : List Expr} {k : Nat} {is : List Nat} {gs : WGs} {n : Nat} (hc : X.calm = true) (h : GDs X es is gs) (hn : (assignEach es X.env).length = n := by rfl) (hst : (assignEach es X.env).findIdx? (·.1) = none := by rfl) :
    GD X (.Tuple es k pos) is (wgTup n gs) := by
  obtain ⟨t, p, s⟩ := h.ex
  refine ⟨_, pg_tup hc p hn hst, fun d ρ Q hw F σ H S v Q' rp hd k => ?_⟩
  cases d with
  | tup ds =>
    unfold Dat at hd
    obtain ⟨a, vs, rfl, r, q⟩ := hd
    exact ⟨a, vs, rfl, .of (rp.sh _ _ r), by rw [q.len]; exact hw.1, s ds ρ _ hw.2 F σ H S vs _ rp q k⟩
  | _ => exact hw.elim

/-! ### what is walked -/
def ItOk (J : It) (S0 : Hp) (ds : List D) : Prop := ∀ (i : Nat) (H S : Hp), Same S0 S → Same S H →
  (∀ d, ds[i]? = some d → J.go i H ∧ ∀ x H', J.yld i H x H' → ∃ S', Grow H S H' S' ∧ Dat S' d x) ∧ (ds.length ≤ i → J.stop i H)
structure ID (X : Cx) (E : XK) (tg iter : Expr) (w : WL) : Prop where
  ex : ∃ wi, PI X tg iter wi ∧ ∀ (x : XS) (ρ : Ev) (Q : List D → Prop), w x ρ Q → ∀ (F : Fr) (σ : L2.St) (H S : Hp) (R : It → Hp → Prop), Rep F ρ σ H S → ExOk X.mg E x H S →
    (∀ ds J H' S', Q ds → Grow H S H' S' → ItOk J S' ds → R J H') → wi σ H R
theorem sql_inj {K : PySem.W.Frag} : True := trivial
/-- a shared list, by its items -/
theorem it_list {K : PySem.W.Frag} {S0 : Hp} {a : Addr} {vs : List V} {ds : List D} (h : ∀ H, Same S0 H → SqL K H a vs) (q : Dats S0 ds vs) : ItOk (Itl K a) S0 ds := fun i H S e1 e2 => by
  have hs : SqL K H a vs := h H (e1.trans e2)
  refine ⟨fun d hd => ?_, fun hl => ⟨vs, hs, by rw [q.len]; exact hl⟩⟩
  obtain ⟨v, hv, hz⟩ := q.get hd
  refine ⟨⟨vs, v, hs, hv⟩, fun x H' y => ?_⟩
  obtain ⟨e, y⟩ := y
  subst e
  have := y vs hs
  rw [hv] at this
  cases this
  exact ⟨S, .refl e2, Dat.mono e1 _ _ hz⟩
def wSeq (wa : WE) : WL := fun x ρ Q => wa x ρ fun d => match d with
  | .lst xs => Q xs
  | .scr ns => Q (ns.map D.int)
  | _ => False
variable {e a b : Expr} {w wa wb wc : WE} {tg : Expr} {p : Pos}
theorem id_list (ha : ED X E a wa) (hK : X.K = KC.K := by rfl) : ID X E tg a (wSeq wa) := by
  obtain ⟨t, pt, s⟩ := ha.ex
  refine ⟨_, pi_list pt, fun x ρ Q hw F σ H S R rp ex k => ?_⟩
  refine s x ρ _ hw F σ H S _ rp ex fun d u H1 S1 q1 g1 h1 => ?_
  cases d with
  | lst xs =>
    unfold Dat at h1
    obtain ⟨a, vs, rfl, r, z⟩ := h1
    exact ⟨a, rfl, ⟨vs, .of (g1.sh _ _ r)⟩, k xs _ H1 S1 q1 g1 (it_list (fun H e => .of (e _ _ r)) z)⟩
  | scr ns =>
    unfold Dat at h1
    obtain ⟨a, rfl, r⟩ := h1
    exact ⟨a, rfl, ⟨_, by rw [hK]; exact g1.sh.seq r⟩, k _ _ H1 S1 q1 g1 (it_list (fun H e => by rw [hK]; exact e.seq r) (Dats.ints ns))⟩
  | _ => exact q1.elim
def wSeqT (wa : WE) : WL := fun x ρ Q => wa x ρ fun d => match d with
  | .tup xs => Q xs
  | _ => False
theorem id_tup (ha : ED X E a wa) : ID X E tg a (wSeqT wa) := by
  obtain ⟨t, pt, s⟩ := ha.ex
  refine ⟨_, pi_tup pt, fun x ρ Q hw F σ H S R rp ex k => ?_⟩
  refine s x ρ _ hw F σ H S _ rp ex fun d u H1 S1 q1 g1 h1 => ?_
  cases d with
  | tup xs =>
    unfold Dat at h1
    obtain ⟨a, vs, rfl, r, z⟩ := h1
    refine ⟨a, rfl, ⟨vs, .of (g1.sh _ _ r)⟩, k xs _ H1 S1 q1 g1 fun i H S e1 e2 => ?_⟩
    have hs : SqT X.K H a vs := .of (e2 _ _ (e1 _ _ r))
    refine ⟨fun d hd => ?_, fun hl => ⟨vs, hs, by rw [z.len]; exact hl⟩⟩
    obtain ⟨v, hv, hz⟩ := z.get hd
    refine ⟨⟨vs, v, hs, hv⟩, fun x H' y => ?_⟩
    obtain ⟨e, y⟩ := y
    subst e
    have := y vs hs
    rw [hv] at this
    cases this
    exact ⟨S, .refl e2, Dat.mono e1 _ _ hz⟩
  | _ => exact q1.elim
def signs (z : Str) : List D := z.cps.toList.map fun c => .str ⟨#[c]⟩
def wSigns (wa : WE) : WL := fun x ρ Q => wa x ρ fun d => match d with
  | .str z => Q (signs z)
  | _ => False
theorem id_str (ha : ED X E a wa) : ID X E tg a (wSigns wa) := by
  obtain ⟨t, pt, s⟩ := ha.ex
  refine ⟨_, pi_str pt, fun x ρ Q hw F σ H S R rp ex k => ?_⟩
  refine s x ρ _ hw F σ H S _ rp ex fun d u H1 S1 q1 g1 h1 => ?_
  cases d with
  | str z =>
    unfold Dat at h1
    refine ⟨z, h1, k _ _ H1 S1 q1 g1 fun i H S e1 e2 => ⟨fun d hd => ?_, fun hl => ?_⟩⟩
    · unfold signs at hd
      rw [List.getElem?_map] at hd
      cases q : z.cps.toList[i]? with
      | none => rw [q] at hd; cases hd
      | some c =>
        rw [q] at hd
        cases hd
        have hi : i < z.cps.size := by
          rcases Nat.lt_or_ge i z.cps.size with h | h
          · exact h
          · rw [List.getElem?_eq_none (by simpa using h)] at q; cases q
        refine ⟨hi, fun x H' y => ?_⟩
        obtain ⟨e, c', hc, y⟩ := y
        subst e
        subst y
        rw [← Array.getElem?_toList, q] at hc
        cases hc
        exact ⟨S, .refl e2, .s⟩
    · unfold signs at hl
      rw [List.length_map] at hl
      exact hl
  | _ => exact q1.elim
/-- lo, lo + c, .. so many -/
def rngD (lo c : Int) (n : Nat) : List D := (List.range n).map fun (i : Nat) => .int (lo + (i : Int) * c)
theorem it_rng {S0 : Hp} {lo : Int} {n : Nat} : ItOk (Itr lo n) S0 (rngD lo 1 n) := fun i H S e1 e2 => by
  refine ⟨fun d hd => ?_, fun hl => by unfold rngD at hl; rw [List.length_map, List.length_range] at hl; exact hl⟩
  unfold rngD at hd
  rw [List.getElem?_map] at hd
  cases q : (List.range n)[i]? with
  | none => rw [q] at hd; cases hd
  | some j =>
    rw [q] at hd
    cases hd
    obtain ⟨hi, hj⟩ := List.getElem?_eq_some_iff.mp q
    simp at hi hj
    subst hj
    refine ⟨hi, fun x H' y => ?_⟩
    obtain ⟨e, y⟩ := y
    subst e y
    exact ⟨S, .refl e2, by show Dat S (.int (lo + (i : Int) * 1)) _; rw [Int.mul_one]; exact .i⟩
theorem it_rngC {S0 : Hp} {lo c : Int} {n : Nat} : ItOk (Itc lo c n) S0 (rngD lo c n) := fun i H S e1 e2 => by
  refine ⟨fun d hd => ?_, fun hl => by unfold rngD at hl; rw [List.length_map, List.length_range] at hl; exact hl⟩
  unfold rngD at hd
  rw [List.getElem?_map] at hd
  cases q : (List.range n)[i]? with
  | none => rw [q] at hd; cases hd
  | some j =>
    rw [q] at hd
    cases hd
    obtain ⟨hi, hj⟩ := List.getElem?_eq_some_iff.mp q
    simp at hi hj
    subst hj
    refine ⟨hi, fun x H' y => ?_⟩
    obtain ⟨e, y⟩ := y
    subst e y
    exact ⟨S, .refl e2, .i⟩
def smallI (i : Int) : Prop := -(2 ^ 62) ≤ i ∧ i < 2 ^ 62
def wRng1 (wa : WE) : WL := fun x ρ Q => wa x ρ fun d => match d with
  | .int n => smallI n ∧ Q (rngD 0 1 n.toNat)
  | _ => False
theorem id_range1 (hg : Gl X "range") (hm : X.mg "range" = none) (ha : ED X E a wa) (hs : starEach [a] X.env = [(false, eval a X.env)] := by rfl) (he : starEach (a :: []) X.env = (false, eval a X.env) :: starEach [] X.env := by rfl) :
    ID X E tg (.Call (.Name "range" p) [a] [] pos) (wRng1 wa) := by
  obtain ⟨t, pt, s⟩ := (ad_cons ha ad_nil he).ex
  refine ⟨_, pi_range1 hg hm pt hs, fun x ρ Q hw F σ H S R rp ex k => ?_⟩
  refine s x ρ (fun ds => match ds with
    | [d] => match d with
      | .int n => smallI n ∧ Q (rngD 0 1 n.toNat)
      | _ => False
    | _ => False) ?_ F σ H S _ rp ex fun ds vs H1 S1 q1 g1 h1 => ?_
  · exact hw
  · split at q1
    · split at q1
      · unfold Dats Dats Dat at h1
        obtain ⟨_, _, rfl, rfl, rfl⟩ := h1
        exact ⟨_, rfl, q1.1.1, q1.1.2, k _ _ H1 S1 q1.2 g1 it_rng⟩
      · exact q1.elim
    · exact q1.elim
def wRng2 (wa wb : WE) : WL := fun x ρ Q => wa x ρ fun d => wb x ρ fun e => match d, e with
  | .int i, .int j => smallI i ∧ smallI j ∧ Q (rngD i 1 (j - i).toNat)
  | _, _ => False
theorem id_range2 (hg : Gl X "range") (hm : X.mg "range" = none) (ha : ED X E a wa) (hb : ED X E b wb) (hs : starEach [a, b] X.env = [(false, eval a X.env), (false, eval b X.env)] := by rfl) (hs2 : starEach [b] X.env = [(false, eval b X.env)] := by rfl)
    (he : starEach (a :: [b]) X.env = (false, eval a X.env) :: starEach [b] X.env := by rfl) (he2 : starEach (b :: []) X.env = (false, eval b X.env) :: starEach [] X.env := by rfl) :
    ID X E tg (.Call (.Name "range" p) [a, b] [] pos) (wRng2 wa wb) := by
  obtain ⟨t, pt, s⟩ := (ad_cons ha (ad_cons hb ad_nil he2) he).ex
  refine ⟨_, pi_range2 hg hm pt hs hs2, fun x ρ Q hw F σ H S R rp ex k => ?_⟩
  refine s x ρ (fun ds => match ds with
    | [d, e] => match d, e with
      | .int i, .int j => smallI i ∧ smallI j ∧ Q (rngD i 1 (j - i).toNat)
      | _, _ => False
    | _ => False) ?_ F σ H S _ rp ex fun ds vs H1 S1 q1 g1 h1 => ?_
  · exact hw
  · split at q1
    · split at q1
      · unfold Dats Dats Dats Dat at h1
        obtain ⟨_, _, rfl, rfl, _, _, rfl, rfl, rfl⟩ := h1
        exact ⟨_, _, rfl, ⟨q1.1.1, q1.1.2, q1.2.1.1, q1.2.1.2⟩, k _ _ H1 S1 q1.2.2 g1 it_rng⟩
      · exact q1.elim
    · exact q1.elim
def wRng3 (wa wb wc : WE) : WL := fun x ρ Q => wa x ρ fun d => wb x ρ fun e => wc x ρ fun f => match d, e, f with
  | .int i, .int j, .int l => ∃ n, RgC i j l n ∧ Q (rngD i l n)
  | _, _, _ => False
theorem id_range3 {c : Expr} (hg : Gl X "range") (hm : X.mg "range" = none) (ha : ED X E a wa) (hb : ED X E b wb) (hc : ED X E c wc) (hs : starEach [a, b, c] X.env = (false, eval a X.env) :: starEach [b, c] X.env := by rfl) (hpl : (backTo pos (starEach [b, c] X.env)).any (·.1) = false := by rfl)
    (he : starEach (a :: [b, c]) X.env = (false, eval a X.env) :: starEach [b, c] X.env := by rfl) (he2 : starEach (b :: [c]) X.env = (false, eval b X.env) :: starEach [c] X.env := by rfl) (he3 : starEach (c :: []) X.env = (false, eval c X.env) :: starEach [] X.env := by rfl) :
    ID X E tg (.Call (.Name "range" p) [a, b, c] [] pos) (wRng3 wa wb wc) := by
  obtain ⟨t, pt, s⟩ := (ad_cons ha (ad_cons hb (ad_cons hc ad_nil he3) he2) he).ex
  refine ⟨_, pi_range3 hg hm pt hs hpl, fun x ρ Q hw F σ H S R rp ex k => ?_⟩
  refine s x ρ (fun ds => match ds with
    | [d, e, f] => match d, e, f with
      | .int i, .int j, .int l => ∃ n, RgC i j l n ∧ Q (rngD i l n)
      | _, _, _ => False
    | _ => False) ?_ F σ H S _ rp ex fun ds vs H1 S1 q1 g1 h1 => ?_
  · exact hw
  · split at q1
    · split at q1
      · unfold Dats Dats Dats Dats Dat at h1
        obtain ⟨_, _, rfl, rfl, _, _, rfl, rfl, _, _, rfl, rfl, rfl⟩ := h1
        obtain ⟨n, q2, q3⟩ := q1
        exact ⟨_, _, _, n, rfl, q2, k _ _ H1 S1 q3 g1 it_rngC⟩
      · exact q1.elim
    · exact q1.elim
def wRev (wa : WE) : WL := fun x ρ Q => wa x ρ fun d => match d with
  | .lst xs => Q xs.reverse
  | _ => False
theorem id_rev (hg : Gl X "reversed") (hm : X.mg "reversed" = none) (ha : ED X E a wa) (hs : starEach [a] X.env = [(false, eval a X.env)] := by rfl) (he : starEach (a :: []) X.env = (false, eval a X.env) :: starEach [] X.env := by rfl) :
    ID X E tg (.Call (.Name "reversed" p) [a] [] pos) (wRev wa) := by
  obtain ⟨t, pt, s⟩ := (ad_cons ha ad_nil he).ex
  refine ⟨_, pi_reversed hg hm pt hs, fun x ρ Q hw F σ H S R rp ex k => ?_⟩
  refine s x ρ (fun ds => match ds with
    | [d] => match d with
      | .lst xs => Q xs.reverse
      | _ => False
    | _ => False) ?_ F σ H S _ rp ex fun ds vs H1 S1 q1 g1 h1 => ?_
  · exact hw
  · split at q1
    · split at q1
      · rename_i xs
        unfold Dats Dats Dat at h1
        obtain ⟨_, _, rfl, ⟨a, vs, rfl, r, z⟩, rfl⟩ := h1
        refine ⟨a, vs, rfl, .of (g1.sh _ _ r), k _ _ H1 S1 q1 g1 fun i H S e1 e2 => ?_⟩
        have hs : SqL X.K H a vs := .of (e2 _ _ (e1 _ _ r))
        have zl := z.len
        refine ⟨fun d hd => ?_, fun hl => by rw [List.length_reverse] at hl; show vs.length ≤ i; omega⟩
        have hi : i < xs.length := by
          rcases Nat.lt_or_ge i xs.length with h | h
          · exact h
          · rw [List.getElem?_eq_none (by simpa using h)] at hd; cases hd
        rw [List.getElem?_reverse hi] at hd
        obtain ⟨v, hv, hz⟩ := z.get hd
        rw [← zl] at hv
        refine ⟨⟨by rw [zl]; exact hi, vs, v, hs, hv⟩, fun x H' y => ?_⟩
        obtain ⟨e, y⟩ := y
        subst e
        have := y vs hs
        rw [hv] at this
        cases this
        exact ⟨S, .refl e2, Dat.mono e1 _ _ hz⟩
      · exact q1.elim
    · exact q1.elim
def pairs (xs ys : List D) : List D := (xs.zip ys).map fun p => .tup [p.1, p.2]
def numbered (xs : List D) : List D := (List.range xs.length).zip xs |>.map fun p => .tup [.int (p.1 : Nat), p.2]
def wEnum (wa : WE) : WL := fun x ρ Q => wa x ρ fun d => match d with
  | .lst xs => Q (numbered xs)
  | _ => False
theorem id_enum {elts : List Expr} {kk : Nat} {tpos : Pos} (hg : Gl X "enumerate") (hm : X.mg "enumerate" = none) (ha : ED X E a wa) (hs : starEach [a] X.env = [(false, eval a X.env)] := by rfl) (he : starEach (a :: []) X.env = (false, eval a X.env) :: starEach [] X.env := by rfl) :
    ID X E (.Tuple elts kk tpos) (.Call (.Name "enumerate" p) [a] [] pos) (wEnum wa) := by
  obtain ⟨t, pt, s⟩ := (ad_cons ha ad_nil he).ex
  refine ⟨_, pi_enum hg hm pt hs, fun x ρ Q hw F σ H S R rp ex k => ?_⟩
  refine s x ρ (fun ds => match ds with
    | [d] => match d with
      | .lst xs => Q (numbered xs)
      | _ => False
    | _ => False) ?_ F σ H S _ rp ex fun ds vs H1 S1 q1 g1 h1 => ?_
  · exact hw
  · split at q1
    · split at q1
      · rename_i xs
        unfold Dats Dats Dat at h1
        obtain ⟨_, _, rfl, ⟨a, vs, rfl, r, z⟩, rfl⟩ := h1
        refine ⟨a, vs, rfl, .of (g1.sh _ _ r), k _ _ H1 S1 q1 g1 fun i H S e1 e2 => ?_⟩
        have hs : SqL X.K H a vs := .of (e2 _ _ (e1 _ _ r))
        have zl := z.len
        refine ⟨fun d hd => ?_, fun hl => ⟨vs, hs, by unfold numbered at hl; simp at hl; omega⟩⟩
        unfold numbered at hd
        rw [List.getElem?_map] at hd
        cases q : ((List.range xs.length).zip xs)[i]? with
        | none => rw [q] at hd; cases hd
        | some pr =>
          rw [q] at hd
          cases hd
          obtain ⟨pn, pd⟩ := pr
          obtain ⟨q2, q3⟩ := List.getElem?_zip_eq_some.mp q
          obtain ⟨hi, hj⟩ := List.getElem?_eq_some_iff.mp q2
          simp at hi hj
          subst hj
          obtain ⟨v, hv, hz⟩ := z.get q3
          refine ⟨⟨vs, v, hs, hv⟩, fun x H' y => ?_⟩
          obtain ⟨T, y1, rfl, hT, rfl, y⟩ := y
          have := y vs hs
          rw [hv] at this
          cases this
          obtain ⟨g, dd⟩ := lay_tup e2 hT (.cons (.i (i := (i : Nat))) (.one (Dat.mono e1 _ _ hz)))
          exact ⟨_, g, dd⟩
      · exact q1.elim
    · exact q1.elim
def wZip (wa wb : WE) : WL := fun x ρ Q => wa x ρ fun d => wb x ρ fun e => match d, e with
  | .lst xs, .lst ys => Q (pairs xs ys)
  | _, _ => False
theorem id_zip {elts : List Expr} {kk : Nat} {tpos : Pos} (hg : Gl X "zip") (hm : X.mg "zip" = none) (ha : ED X E a wa) (hb : ED X E b wb)
    (hs : starEach [a, b] X.env = (false, eval a X.env) :: starEach [b] X.env := by rfl) (hpl : (backTo pos (starEach [b] X.env)).any (·.1) = false := by rfl) (he2 : starEach (b :: []) X.env = (false, eval b X.env) :: starEach [] X.env := by rfl) :
    ID X E (.Tuple elts kk tpos) (.Call (.Name "zip" p) [a, b] [] pos) (wZip wa wb) := by
  obtain ⟨t, pt, s⟩ := (ad_cons ha (ad_cons hb ad_nil he2) hs).ex
  refine ⟨_, pi_zip hg hm pt hs hpl, fun x ρ Q hw F σ H S R rp ex k => ?_⟩
  refine s x ρ (fun ds => match ds with
    | [d, e] => match d, e with
      | .lst xs, .lst ys => Q (pairs xs ys)
      | _, _ => False
    | _ => False) ?_ F σ H S _ rp ex fun ds vs H1 S1 q1 g1 h1 => ?_
  · exact hw
  · split at q1
    · split at q1
      · rename_i xs ys
        unfold Dats Dats Dats Dat at h1
        obtain ⟨_, _, rfl, ⟨a, vs, rfl, r, z⟩, _, _, rfl, ⟨b, us, rfl, r', z'⟩, rfl⟩ := h1
        refine ⟨a, b, vs, us, rfl, .of (g1.sh _ _ r), .of (g1.sh _ _ r'), k _ _ H1 S1 q1 g1 fun i H S e1 e2 => ?_⟩
        have hs : SqL X.K H a vs := .of (e2 _ _ (e1 _ _ r))
        have hs' : SqL X.K H b us := .of (e2 _ _ (e1 _ _ r'))
        have zl := z.len
        have zl' := z'.len
        refine ⟨fun d hd => ?_, fun hl => ⟨vs, us, hs, hs', by unfold pairs at hl; simp at hl; omega⟩⟩
        unfold pairs at hd
        rw [List.getElem?_map] at hd
        cases q : (xs.zip ys)[i]? with
        | none => rw [q] at hd; cases hd
        | some pr =>
          rw [q] at hd
          cases hd
          obtain ⟨q1, q2⟩ := List.getElem?_zip_eq_some.mp q
          obtain ⟨v, hv, hz⟩ := z.get q1
          obtain ⟨u, hu, hz'⟩ := z'.get q2
          refine ⟨⟨vs, us, v, u, hs, hs', hv, hu⟩, fun x H' y => ?_⟩
          obtain ⟨T, y1, y2, rfl, hT, rfl, y, y'⟩ := y
          have e3 := y vs hs
          rw [hv] at e3
          cases e3
          have e4 := y' us hs'
          rw [hu] at e4
          cases e4
          obtain ⟨g, dd⟩ := lay_tup e2 hT (.cons (Dat.mono e1 _ _ hz) (.one (Dat.mono e1 _ _ hz')))
          exact ⟨_, g, dd⟩
      · exact q1.elim
    · exact q1.elim

/-! ### list comprehensions -/
abbrev X0 : XS := fun _ => False
def compL (g : WG) (wt : WT) (we : WE) (ρ : Ev) (Q : List D → Prop) : List D → List D → Prop
  | [], acc => Q acc
  | d :: ds, acc => g d ρ fun ρ2 => wt X0 ρ2 fun b => Br b (we X0 ρ2 fun y => acc.length < sizeLine ∧ compL g wt we ρ Q ds (acc ++ [y])) (compL g wt we ρ Q ds acc) ⟨⟩ ⟨⟩
def wLc (wi : WL) (g : WG) (wt : WT) (we : WE) (vs : List Nat) : WL := fun x ρ Q => wi x ρ fun ds => compL g wt we (wipeE ρ vs) Q ds []
theorem exOk0 {mg : Str → Option Value} {H S : Hp} : ExOk mg E0 X0 H S := fun _ _ _ _ h => h.elim
/-- the loop, for whatever its tests are -/
theorem lc_sound {mg : Str → Option Value} {J : It} {g : WG} {is : List Nat} {wt : WT} {tt : TT} {we : WE} {vs : List Nat} {F : Fr} {ρ : Ev} {σ : L2.St} {H0 S0 H1 S1 : Hp} {ds : List D} {Q : List D → Prop} {Q' : VK} {D0 : Addr}
    (his : ∀ i ∈ is, i ∈ vs) (rp : Rep F ρ σ H0 S0) (g1 : Grow H0 S0 H1 S1) (hJ : ItOk J S1 ds) (hD : H1 D0 = none) (hw : compL g wt we (wipeE ρ vs) Q ds [])
    (ht : ∀ (ρ2 : Ev) (σ2 : L2.St) (H S : Hp) (R : Bool → Prop) (R' : Bool → Hp → Prop), wt X0 ρ2 R → Rep F ρ2 σ2 H S → (∀ b H' S', R b → Grow H S H' S' → R' b H') → tt σ2 H R')
    (k : ∀ xs ws H' S', Q xs → Grow H0 S0 H' S' → H0 D0 = none → S' D0 = none → H' D0 = some (.lst ws) → Dats S' xs ws → Q' (.ref D0) H') :
    ∃ W : Nat → Nat → Hp → Prop, (∃ m, W 0 m (upd H1 D0 (.lst []))) ∧ ∀ i m H, W i m H →
      (J.stop i H ∧ Q' (.ref D0) H) ∨ (J.go i H ∧ ∃ Nx : Hp → Prop, (∀ H', Nx H' → ∃ m', m' < m ∧ W (i + 1) m' H') ∧ ∀ x H', J.yld i H x H' → canG g is x (wipe σ vs) H' fun σ2 H2 => wipe σ2 vs = wipe σ vs ∧ tt σ2 H2 fun b H3 =>
        if b = true then canE mg E0 we σ2 H3 fun y H4 => ∃ acc, H4 D0 = some (.lst acc) ∧ acc.length < sizeLine ∧ Nx (upd H4 D0 (.lst (acc ++ [y]))) else Nx H3) := by
  have hD0 : H0 D0 = none := g1.freeH hD
  let W : Nat → Nat → Hp → Prop := fun i m H => m = ds.length - i ∧ i ≤ ds.length ∧ ∃ S acc ws, Grow H0 S0 H S ∧ Same S1 S ∧ H D0 = some (.lst ws) ∧ S D0 = none ∧ Dats S acc ws ∧ compL g wt we (wipeE ρ vs) Q (ds.drop i) acc
  refine ⟨W, ⟨ds.length, by simp, Nat.zero_le _, S1, [], [], g1.lay hD, .refl _, upd_same, g1.freeS hD, .nil, hw⟩, ?_⟩
  rintro i m H ⟨rfl, hi, S, acc, ws, gg, ss, hH, hS, hd, hc⟩
  rcases Nat.lt_or_ge i ds.length with hlt | hge
  · obtain ⟨d, hdi⟩ : ∃ d, ds[i]? = some d := ⟨_, List.getElem?_eq_getElem hlt⟩
    obtain ⟨go, yl⟩ := (hJ i H S ss gg.sh).1 d hdi
    have hdrop : ds.drop i = d :: ds.drop (i + 1) := by
      rw [List.drop_eq_getElem_cons hlt]
      congr 1
      rw [List.getElem?_eq_getElem hlt] at hdi
      exact Option.some.inj hdi
    rw [hdrop] at hc
    refine .inr ⟨go, fun H' => W (i + 1) (ds.length - (i + 1)) H', fun H' h => ⟨_, by omega, h⟩, fun x H' y => ?_⟩
    obtain ⟨S', g', dx⟩ := yl x H' y
    refine ⟨d, wipeE ρ vs, _, F, S', hc, ((rp.grow gg).grow g').wipe vs, dx, fun ρ2 σ2 h2 r2 w2 => ⟨by rw [w2 vs his, wipe_wipe], ?_⟩⟩
    refine ht ρ2 σ2 H' S' _ _ h2 r2 fun b H3 S3 h3 g3 => ?_
    have g03 : Grow H0 S0 H3 S3 := (gg.trans g').trans g3
    have sD : S' D0 = none := by rw [g'.nw D0 (by rw [hH]; intro z; cases z)]; exact hS
    have hD' : H' D0 = some (.lst ws) := g'.hh.lst hH
    have sD3 : S3 D0 = none := by rw [g3.nw D0 (by rw [hD']; intro z; cases z)]; exact sD
    have hD3 : H3 D0 = some (.lst ws) := g3.hh.lst hD'
    cases b with
    | false => exact iteF ⟨rfl, hlt, S3, acc, ws, g03, (ss.trans g'.ss).trans g3.ss, hD3, sD3, Dats.mono g3.ss _ _ (Dats.mono g'.ss _ _ hd), h3⟩
    | true =>
      refine iteT ⟨X0, ρ2, _, F, S3, h3, r2.grow g3, exOk0, fun y v H4 S4 h4 g4 d4 => ?_⟩
      have sD4 : S4 D0 = none := by rw [g4.nw D0 (by rw [hD3]; intro z; cases z)]; exact sD3
      have hD4 : H4 D0 = some (.lst ws) := g4.hh.lst hD3
      have hd4 : Dats S4 acc ws := Dats.mono g4.ss _ _ (Dats.mono g3.ss _ _ (Dats.mono g'.ss _ _ hd))
      have g04 : Grow H0 S0 H4 S4 := g03.trans g4
      refine ⟨ws, hD4, by rw [hd4.len]; exact h4.1, rfl, hlt, S4, acc ++ [y], ws ++ [v], ⟨g04.hh.over hD0 hD4 (fun _ z => by cases z) (fun _ z => by cases z), g04.ss, fun b o e => ?_, g04.nw⟩, ((ss.trans g'.ss).trans g3.ss).trans g4.ss, upd_same, sD4, hd4.app (.one d4), h4.2⟩
      · rw [upd_ne (ne_of_none e sD4)]
        exact g04.sh b o e
  · have e : i = ds.length := by omega
    subst e
    rw [List.drop_length] at hc
    exact .inl ⟨(hJ _ H S ss gg.sh).2 (Nat.le_refl _), k acc ws H S hc gg hD0 hS hH hd⟩
variable {elt iter : Expr} {scope : Scope} {own : List (Str × Nat)} {vs : List Nat} {wi : WL} {g : WG} {is : List Nat} {we : WE} {wt : WT} {c : Expr}
def wtYes : WT := fun _ _ Q => Q true
theorem df_lc (hc : X.calm = true) (hN : X.N.Nodup) (hi : ID X E tg iter wi) (ok : BlkOk X.N X.env.scope scope own)
    (hg : ∀ (s : Shared) (H : Hp) (C : Addr) (cl : List (Str × Addr)) (fp : List Addr), GD (X.blk s H scope (compEnvC scope cl C X.env) fp) tg is g)
    (he : ∀ (s : Shared) (H : Hp) (C : Addr) (cl : List (Str × Addr)) (fp : List Addr), ED (X.blk s H scope (compEnvC scope cl C X.env) fp) E0 elt we)
    (hvs : own.map (·.2) = vs := by rfl) (his : ∀ i ∈ is, i ∈ vs := by decide) (hs : ∀ x, foldedSetIterable iter X.env x = pure x := by intro _; rfl) :
    DF X E (.ListComp elt [⟨tg, iter, [], 0⟩] scope pos) (wLc wi g wtYes we vs) := by
  subst hvs
  obtain ⟨ti, pti, s⟩ := hi.ex
  refine ⟨_, pe_lc (g := canG g is) (tt := tYes) (te := canE X.mg E0 we) hc hN pti ok (fun s H C cl fp => (hg s H C cl fp).can) (fun _ _ _ _ _ => pts_nil) (fun s H C cl fp => (he s H C cl fp).can) hs, fun x ρ Q hw F σ H S Q' rp ex k => ?_⟩
  refine s x ρ _ hw F σ H S _ rp ex fun ds J H1 S1 q1 g1 hJ D0 hD => ?_
  exact lc_sound his rp g1 hJ hD q1 (fun ρ2 σ2 H S R R' h r k => k true H S h (.refl r.sh)) fun xs ws H' S' q g h0 h1 h2 hd => k xs D0 ws H' S' q g h0 h1 h2 hd
theorem df_lcIf (hc : X.calm = true) (hN : X.N.Nodup) (hi : ID X E tg iter wi) (ok : BlkOk X.N X.env.scope scope own)
    (hg : ∀ (s : Shared) (H : Hp) (C : Addr) (cl : List (Str × Addr)) (fp : List Addr), GD (X.blk s H scope (compEnvC scope cl C X.env) fp) tg is g)
    (ht : ∀ (s : Shared) (H : Hp) (C : Addr) (cl : List (Str × Addr)) (fp : List Addr), TD (X.blk s H scope (compEnvC scope cl C X.env) fp) E0 c wt)
    (he : ∀ (s : Shared) (H : Hp) (C : Addr) (cl : List (Str × Addr)) (fp : List Addr), ED (X.blk s H scope (compEnvC scope cl C X.env) fp) E0 elt we)
    (hvs : own.map (·.2) = vs := by rfl) (his : ∀ i ∈ is, i ∈ vs := by decide) (hs : ∀ x, foldedSetIterable iter X.env x = pure x := by intro _; rfl) :
    DF X E (.ListComp elt [⟨tg, iter, [c], 0⟩] scope pos) (wLc wi g wt we vs) := by
  subst hvs
  obtain ⟨ti, pti, s⟩ := hi.ex
  refine ⟨_, pe_lc (g := canG g is) (tt := canT X.mg E0 wt) (te := canE X.mg E0 we) hc hN pti ok (fun s H C cl fp => (hg s H C cl fp).can) (fun s H C cl fp => pts_one (ht s H C cl fp).can) (fun s H C cl fp => (he s H C cl fp).can) hs, fun x ρ Q hw F σ H S Q' rp ex k => ?_⟩
  refine s x ρ _ hw F σ H S _ rp ex fun ds J H1 S1 q1 g1 hJ D0 hD => ?_
  exact lc_sound his rp g1 hJ hD q1 (fun ρ2 σ2 H S R R' h r k => ⟨X0, ρ2, R, F, S, h, r, exOk0, k⟩) fun xs ws H' S' q g h0 h1 h2 hd => k xs D0 ws H' S' q g h0 h1 h2 hd
end
end NL

namespace NL
open PySem PySem.Spec L2
open PyProof.Rows hiding St
variable [KC]

structure DEnds where
  nx : Ev → Prop
  rt : Rt → Ev → Prop
  bk : Ev → Prop := fun _ => False
  ct : Ev → Prop := fun _ => False
  ex : XS
abbrev WS := DEnds → Ev → Prop
structure EndsOk (mg : Str → Option Value) (E : XK) (F : Fr) (q : DEnds) (D : Ends) : Prop where
  nx : ∀ ρ σ H S, q.nx ρ → Rep F ρ σ H S → D.nx σ H
  rt : ∀ r ρ v σ H S, q.rt r ρ → Rep F ρ σ H S → RtP F.H0 H S r v → D.rt v H
  bk : ∀ ρ σ H S, q.bk ρ → Rep F ρ σ H S → D.bk σ H
  ct : ∀ ρ σ H S, q.ct ρ → Rep F ρ σ H S → D.ct σ H
  ex : ∀ n C H S, q.ex n → mg n = some (.ref C) → FGrow F H S → E (.ref C) none H
theorem EndsOk.exOk {mg : Str → Option Value} {E : XK} {F : Fr} {q : DEnds} {D : Ends} {ρ : Ev} {σ : L2.St} {H S : Hp} (o : EndsOk mg E F q D) (r : Rep F ρ σ H S) : ExOk mg E q.ex H S :=
  fun n C H' S' h1 h2 g => o.ex n C H' S' h1 h2 (r.fg.grow g)
structure SD (X : Cx) (E : XK) (st : Stmt) (w : WS) : Prop where
  ex : ∃ t, PS X st t ∧ ∀ (q : DEnds) (ρ : Ev), w q ρ → ∀ (F : Fr) (σ : L2.St) (H S : Hp) (D : Ends), Rep F ρ σ H S → EndsOk X.mg E F q D → t D σ H
structure SDs (X : Cx) (E : XK) (st : List Stmt) (w : WS) : Prop where
  ex : ∃ t, PSs X st t ∧ ∀ (q : DEnds) (ρ : Ev), w q ρ → ∀ (F : Fr) (σ : L2.St) (H S : Hp) (D : Ends), Rep F ρ σ H S → EndsOk X.mg E F q D → t D σ H

section
variable {X : Cx} {E : XK} {st : Stmt} {sts : List Stmt} {e a b : Expr} {pos : Pos} {w wa wb we : WE} {wt : WT} {ws wu : WS} {wl : WL}
def wsNil  : WS := fun q ρ => q.nx ρ
theorem sds_nil : SDs X E [] wsNil := ⟨_, pss_nil, fun q ρ hw F σ H S D rp o => o.nx ρ σ H S hw rp⟩
def wSeqS (w1 w2 : WS) : WS := fun q ρ => w1 { q with nx := w2 q } ρ
theorem sds_cons (h1 : SD X E st ws) (h2 : SDs X E sts wu) : SDs X E (st :: sts) (wSeqS ws wu) := by
  obtain ⟨t, p, s⟩ := h1.ex
  obtain ⟨t', p', s'⟩ := h2.ex
  refine ⟨_, pss_cons p p', fun q ρ hw F σ H S D rp o => ?_⟩
  exact s _ ρ hw F σ H S _ rp ⟨fun ρ1 σ1 H1 S1 q1 r1 => s' q ρ1 q1 F σ1 H1 S1 D r1 o, o.rt, o.bk, o.ct, o.ex⟩
theorem sds_one (h1 : SD X E st ws) : SDs X E [st] ws := by
  obtain ⟨t, p, s⟩ := h1.ex
  exact ⟨_, pss_one p, s⟩
/-- from here on the slot's own thing is shared -/
def wFrz (i : Nat) (w : WS) : WS := fun q ρ => match ρ[i]? with
  | some (.own false c) => w q (ρ.set i (.fz c.d))
  | some (.fz _) => w q ρ
  | _ => False
theorem sds_frz (i : Nat) (h : SDs X E sts ws) : SDs X E sts (wFrz i ws) := by
  obtain ⟨t, p, s⟩ := h.ex
  refine ⟨t, p, fun q ρ hw F σ H S D rp o => ?_⟩
  unfold wFrz at hw
  split at hw
  · rename_i c hi
    obtain ⟨S', r'⟩ := rp.frz hi
    exact s q _ hw F σ H S' D r' o
  · exact s q ρ hw F σ H S D rp o
  · exact hw.elim
theorem sd_pass : SD X E (.Pass pos) wsNil := ⟨_, ps_pass, fun q ρ hw F σ H S D rp o => o.nx ρ σ H S hw rp⟩
def wsBrk  : WS := fun q ρ => q.bk ρ
theorem sd_break : SD X E (.Break pos) wsBrk := ⟨_, ps_break, fun q ρ hw F σ H S D rp o => o.bk ρ σ H S hw rp⟩
def wsCnt  : WS := fun q ρ => q.ct ρ
theorem sd_continue : SD X E (.Continue pos) wsCnt := ⟨_, ps_continue, fun q ρ hw F σ H S D rp o => o.ct ρ σ H S hw rp⟩
def wsExpr (w : WE) : WS := fun q ρ => w q.ex ρ fun _ => q.nx ρ
theorem sd_expr (he : ED X E e w) (hs : swapsWith e none pos.line X.env = pure false := by rfl) : SD X E (.Expr e pos) (wsExpr w) := by
  obtain ⟨t, p, s⟩ := he.ex
  refine ⟨_, ps_expr p hs, fun q ρ hw F σ H S D rp o => ?_⟩
  exact s q.ex ρ _ hw F σ H S _ rp (o.exOk rp) fun d v H1 S1 q1 g1 h1 => o.nx ρ σ H1 S1 q1 (rp.grow g1)
def wsRet (w : WE) : WS := fun q ρ => w q.ex ρ fun d => q.rt (.val d) ρ
theorem sd_ret (he : ED X E e w) : SD X E (.Return (some e) pos) (wsRet w) := by
  obtain ⟨t, p, s⟩ := he.ex
  refine ⟨_, ps_ret p, fun q ρ hw F σ H S D rp o => ?_⟩
  exact s q.ex ρ _ hw F σ H S _ rp (o.exOk rp) fun d v H1 S1 q1 g1 h1 => o.rt _ ρ v σ H1 S1 q1 (rp.grow g1) h1
theorem fg_free {F : Fr} {H S : Hp} (f : FGrow F H S) {p : Addr} (h : H p = none) : F.H0 p = none := by
  cases q : F.H0 p with
  | none => rfl
  | some o => exact absurd h (f.al p (by rw [q]; intro z; cases z))
def wsRetF (wl : WL) : WS := fun q ρ => wl q.ex ρ fun xs => q.rt (.new (.lst xs)) ρ
theorem sd_retF (he : DF X E e wl) : SD X E (.Return (some e) pos) (wsRetF wl) := by
  obtain ⟨t, p, s⟩ := he.ex
  refine ⟨_, ps_ret p, fun q ρ hw F σ H S D rp o => ?_⟩
  exact s q.ex ρ _ hw F σ H S _ rp (o.exOk rp) fun xs p vs H1 S1 q1 g1 h0 h1 h2 hd => o.rt _ ρ _ σ H1 S1 q1 (rp.grow g1) ⟨p, _, rfl, fg_free rp.fg h0, h1, h2, vs, rfl, hd⟩
def wsRetOwn (i : Nat) : WS := fun q ρ => match ρ[i]? with
  | some (.own false c) => q.rt (.new c) ρ
  | _ => False
theorem sd_retOwn (i : Nat) {x : Str} {p : Pos} (hN : X.N[i]? = some x := by rfl) (hv : Vis X.env.scope x := by first | exact Or.inl rfl | exact Or.inr (Or.inl rfl) | exact Or.inr (Or.inr rfl)) (hd : (x == ("__debug__" : Str)) = false := by decide)
    (hcd : (x == ("__classdict__" : Str)) = false := by decide) : SD X E (.Return (some (.Name x p)) pos) (wsRetOwn i) := by
  refine ⟨_, ps_ret (pe_var hN hv hd hcd), fun q ρ hw F σ H S D rp o => ?_⟩
  unfold wsRetOwn at hw
  split at hw
  · rename_i c hi
    obtain ⟨p, u, e, h1, h2, h3, _, h4⟩ := rp.own hi
    exact ⟨.ref p, e, o.rt _ ρ _ σ H S hw rp ⟨p, u, rfl, h4 rfl, h1, h2, h3⟩⟩
  · exact hw.elim
def wsRetN  : WS := fun q ρ => q.rt (.val .non) ρ
theorem sd_retN : SD X E (.Return none pos) wsRetN := ⟨_, ps_retN, fun q ρ hw F σ H S D rp o => o.rt _ ρ V.non σ H S hw rp (show Dat S .non .non from .n)⟩
def wIfS (wt : WT) (ws wu : WS) : WS := fun q ρ => wt q.ex ρ fun b => Br b (ws q ρ) (wu q ρ) ⟨⟩ ⟨⟩
theorem sd_if {c : Expr} {p1 p2 : List Stmt} (hc : TD X E c wt) (ha : SDs X E p1 ws) (hb : SDs X E p2 wu) : SD X E (.If c p1 p2 pos) (wIfS wt ws wu) := by
  obtain ⟨t, p, s⟩ := hc.ex
  obtain ⟨ta, pa, sa⟩ := ha.ex
  obtain ⟨tb, pb, sb⟩ := hb.ex
  refine ⟨_, ps_if p pa pb, fun q ρ hw F σ H S D rp o => ?_⟩
  refine s q.ex ρ _ hw F σ H S _ rp (o.exOk rp) fun b H1 S1 q1 g1 => ?_
  cases b with
  | true => exact iteT (sa q ρ q1 F σ H1 S1 D (rp.grow g1) o)
  | false => exact iteF (sb q ρ q1 F σ H1 S1 D (rp.grow g1) o)

/-! ### stores -/
def locX (X : Cx) (x : Str) : Prop := Loc X.env.scope x ∧ (X.fn x = true ∨ X.env.scope.names.lookup x = some .local)
def wsSet (i : Nat) (w : WE) : WS := fun q ρ => w q.ex ρ fun d => q.nx (ρ.set i (.fz d))
theorem sd_set (i : Nat) {x : Str} {p : Pos} (hN : X.N.Nodup) (he : ED X E e w) (hi : X.N[i]? = some x := by rfl) (hx : Loc X.env.scope x := by first | exact Or.inl rfl | exact Or.inr rfl) (hs : swapsWith e (some (.Name x p)) pos.line X.env = pure false := by rfl)
    (hf : X.fn x = true ∨ X.env.scope.names.lookup x = some .local := by first | exact .inl rfl | exact .inr rfl) : SD X E (.Assign [.Name x p] e pos) (wsSet i w) := by
  obtain ⟨t, pe, s⟩ := he.ex
  refine ⟨_, ps_set hN hi hx pe hs hf, fun q ρ hw F σ H S D rp o => ?_⟩
  exact s q.ex ρ _ hw F σ H S _ rp (o.exOk rp) fun d v H1 S1 q1 g1 h1 => o.nx _ _ H1 S1 q1 ((rp.grow g1).set h1)
theorem own_ne {F : Fr} {ρ : Ev} {σ : L2.St} {H S : Hp} (rp : Rep F ρ σ H S) {p : Addr} (h0 : H p = none) (j : Nat) (m : Bool) (c : Cn) (h : ρ[j]? = some (.own m c)) : σ[j]? ≠ some (some (.ref p)) := fun z => by
  obtain ⟨p', o, e, _, h2, _⟩ := rp.own h
  rw [e] at z
  cases z
  rw [h0] at h2
  cases h2
def wsSetF (i : Nat) (wl : WL) : WS := fun q ρ => wl q.ex ρ fun xs => q.nx (ρ.set i (.own false (.lst xs)))
theorem sd_setF (i : Nat) {x : Str} {p : Pos} (hN : X.N.Nodup) (he : DF X E e wl) (hi : X.N[i]? = some x := by rfl) (hx : Loc X.env.scope x := by first | exact Or.inl rfl | exact Or.inr rfl) (hs : swapsWith e (some (.Name x p)) pos.line X.env = pure false := by rfl)
    (hf : X.fn x = true ∨ X.env.scope.names.lookup x = some .local := by first | exact .inl rfl | exact .inr rfl) : SD X E (.Assign [.Name x p] e pos) (wsSetF i wl) := by
  obtain ⟨t, pe, s⟩ := he.ex
  refine ⟨_, ps_set hN hi hx pe hs hf, fun q ρ hw F σ H S D rp o => ?_⟩
  exact s q.ex ρ _ hw F σ H S _ rp (o.exOk rp) fun xs p vs H1 S1 q1 g1 h0 h1 h2 hd => o.nx _ _ H1 S1 q1 ((rp.grow g1).setOwn h1 h2 ⟨vs, rfl, hd⟩ (fg_free rp.fg h0) (own_ne rp h0))
/-- name = [.. for ..] -/
theorem sd_setLc (i : Nat) {y : Str} {py spos : Pos} {elt tg iter : Expr} {scope : Scope} {own : List (Str × Nat)} {vs : List Nat} {wi : WL} {g : WG} {is : List Nat} (hc : X.calm = true) (hN : X.N.Nodup) (hi : ID X E tg iter wi) (ok : BlkOk X.N X.env.scope scope own)
    (hg : ∀ (s : Shared) (H : Hp) (C : Addr) (cl : List (Str × Addr)) (fp : List Addr), GD (X.blk s H scope (compEnvC scope cl C X.env) fp) tg is g)
    (he : ∀ (s : Shared) (H : Hp) (C : Addr) (cl : List (Str × Addr)) (fp : List Addr), ED (X.blk s H scope (compEnvC scope cl C X.env) fp) E0 elt we)
    (hy : X.N[i]? = some y := by rfl) (hyl : X.env.scope.names.lookup y = some .local := by rfl) (hsw : swapsWith (.ListComp elt [⟨tg, iter, [], 0⟩] scope pos) (some (.Name y py)) spos.line X.env = pure true := by exact sw_true rfl rfl rfl (by decide +kernel))
    (hvs : own.map (·.2) = vs := by rfl) (his : ∀ i ∈ is, i ∈ vs := by decide) (hs : ∀ x, foldedSetIterable iter X.env x = pure x := by intro _; rfl) :
    SD X E (.Assign [.Name y py] (.ListComp elt [⟨tg, iter, [], 0⟩] scope pos) spos) (wsSetF i (wLc wi g wtYes we vs)) := by
  subst hvs
  obtain ⟨ti, pti, s⟩ := hi.ex
  refine ⟨_, ps_setLc (i := i) (g := canG g is) (tt := tYes) (te := canE X.mg E0 we) hc hN hy hyl hsw pti ok (fun s H C cl fp => (hg s H C cl fp).can) (fun _ _ _ _ _ => pts_nil) (fun s H C cl fp => (he s H C cl fp).can) hs, fun q ρ hw F σ H S D rp o => ?_⟩
  refine s q.ex ρ _ hw F σ H S _ rp (o.exOk rp) fun ds J H1 S1 q1 g1 hJ D0 hD => ?_
  exact lc_sound (Q' := fun x H1 => gName i x σ H1 D.nx) his rp g1 hJ hD q1 (fun ρ2 σ2 H S R R' h r k => k true H S h (.refl r.sh)) fun xs vs H' S' q' g h0 h1 h2 hd =>
    o.nx _ _ H' S' q' ((rp.grow g).setOwn h1 h2 ⟨vs, rfl, hd⟩ (fg_free rp.fg h0) (own_ne rp h0))
theorem sd_setLcIf (i : Nat) {y : Str} {py spos : Pos} {elt tg iter c : Expr} {scope : Scope} {own : List (Str × Nat)} {vs : List Nat} {wi : WL} {g : WG} {is : List Nat} (hc : X.calm = true) (hN : X.N.Nodup) (hi : ID X E tg iter wi) (ok : BlkOk X.N X.env.scope scope own)
    (hg : ∀ (s : Shared) (H : Hp) (C : Addr) (cl : List (Str × Addr)) (fp : List Addr), GD (X.blk s H scope (compEnvC scope cl C X.env) fp) tg is g)
    (ht : ∀ (s : Shared) (H : Hp) (C : Addr) (cl : List (Str × Addr)) (fp : List Addr), TD (X.blk s H scope (compEnvC scope cl C X.env) fp) E0 c wt)
    (he : ∀ (s : Shared) (H : Hp) (C : Addr) (cl : List (Str × Addr)) (fp : List Addr), ED (X.blk s H scope (compEnvC scope cl C X.env) fp) E0 elt we)
    (hy : X.N[i]? = some y := by rfl) (hyl : X.env.scope.names.lookup y = some .local := by rfl) (hsw : swapsWith (.ListComp elt [⟨tg, iter, [c], 0⟩] scope pos) (some (.Name y py)) spos.line X.env = pure true := by exact sw_true rfl rfl rfl (by decide +kernel))
    (hvs : own.map (·.2) = vs := by rfl) (his : ∀ i ∈ is, i ∈ vs := by decide) (hs : ∀ x, foldedSetIterable iter X.env x = pure x := by intro _; rfl) :
    SD X E (.Assign [.Name y py] (.ListComp elt [⟨tg, iter, [c], 0⟩] scope pos) spos) (wsSetF i (wLc wi g wt we vs)) := by
  subst hvs
  obtain ⟨ti, pti, s⟩ := hi.ex
  refine ⟨_, ps_setLc (i := i) (g := canG g is) (tt := canT X.mg E0 wt) (te := canE X.mg E0 we) hc hN hy hyl hsw pti ok (fun s H C cl fp => (hg s H C cl fp).can) (fun s H C cl fp => pts_one (ht s H C cl fp).can) (fun s H C cl fp => (he s H C cl fp).can) hs, fun q ρ hw F σ H S D rp o => ?_⟩
  refine s q.ex ρ _ hw F σ H S _ rp (o.exOk rp) fun ds J H1 S1 q1 g1 hJ D0 hD => ?_
  exact lc_sound (Q' := fun x H1 => gName i x σ H1 D.nx) his rp g1 hJ hD q1 (fun ρ2 σ2 H S R R' h r k => ⟨X0, ρ2, R, F, S, h, r, exOk0, k⟩) fun xs vs H' S' q' g h0 h1 h2 hd =>
    o.nx _ _ H' S' q' ((rp.grow g).setOwn h1 h2 ⟨vs, rfl, hd⟩ (fg_free rp.fg h0) (own_ne rp h0))
/-- a target of several names -/
def wsAsg (w : WE) (g : WG) : WS := fun q ρ => w q.ex ρ fun d => g d ρ q.nx
theorem sd_asg {tg : Expr} {is : List Nat} {g : WG} (he : ED X E e w) (hg : GD X tg is g) (hs : swapsWithSole [tg] e pos.line X.env = pure false := by rfl) (hw : swappedStores [tg] e X.env = pure none := by rfl)
    (h1 : (assignEach [tg] X.env).map (·.2) = [assign tg X.env] := by rfl) : SD X E (.Assign [tg] e pos) (wsAsg w g) := by
  obtain ⟨t, pe, s⟩ := he.ex
  obtain ⟨tg, pg, sg⟩ := hg.ex
  refine ⟨_, ps_asg pe pg hs hw h1, fun q ρ hw F σ H S D rp o => ?_⟩
  refine s q.ex ρ _ hw F σ H S _ rp (o.exOk rp) fun d v H1 S1 q1 g1 h1 => ?_
  exact sg d ρ _ q1 F σ H1 S1 v _ (rp.grow g1) h1 fun ρ' σ' q2 r2 _ => o.nx _ _ H1 S1 q2 r2
/-- a, b = x, y -/
def wsPar (i j : Nat) (wa wb : WE) : WS := fun q ρ => wa q.ex ρ fun d => wb q.ex ρ fun d' => q.nx ((ρ.set i (.fz d)).set j (.fz d'))
theorem sd_par (i j : Nat) {x y : Str} {wb : WE} {px py pt : Pos} {kt k2 pt2} (hc : X.calm = true) (hN : X.N.Nodup) (ha : ED X E a wa) (hb : ED X E b wb) (hi : X.N[i]? = some x := by rfl) (hj : X.N[j]? = some y := by rfl) (hij : i ≠ j := by decide)
    (hx : X.env.scope.names.lookup x = some .local := by rfl) (hy : X.env.scope.names.lookup y = some .local := by rfl)
    (hw : swappedStores [.Tuple [.Name x px, .Name y py] kt pt] (.Tuple [a, b] k2 pt2) X.env = pure (some [x, y]) := by rfl)
    (hs : swapsWithSole [.Tuple [.Name x px, .Name y py] kt pt] (.Tuple [a, b] k2 pt2) pos.line X.env = pure false := by rfl)
    (he2 : starEach (b :: []) X.env = (false, eval b X.env) :: starEach [] X.env := by rfl) (he : starEach (a :: [b]) X.env = (false, eval a X.env) :: starEach [b] X.env := by rfl) :
    SD X E (.Assign [.Tuple [.Name x px, .Name y py] kt pt] (.Tuple [a, b] k2 pt2) pos) (wsPar i j wa wb) := by
  obtain ⟨t, pt, s⟩ := (ad_cons ha (ad_cons hb ad_nil he2) he).ex
  refine ⟨_, ps_par hc hN hi hj hij hx hy pt hw hs, fun q ρ hw F σ H S D rp o => ?_⟩
  refine s q.ex ρ (fun ds => match ds with
    | [d, d'] => q.nx ((ρ.set i (.fz d)).set j (.fz d'))
    | _ => False) hw F σ H S _ rp (o.exOk rp) fun ds vs H1 S1 q1 g1 h1 => ?_
  split at q1
  · unfold Dats Dats Dats at h1
    obtain ⟨v, _, rfl, d1, v', _, rfl, d2, rfl⟩ := h1
    exact ⟨v, v', rfl, o.nx _ _ H1 S1 q1 (((rp.grow g1).set d1).set d2)⟩
  · exact q1.elim
/-- name op= e -/
structure PipD (X : Cx) (op : Operator) (g : D → D → (D → Prop) → Prop) : Prop where
  ex : ∃ r : TIp, PIp X op r ∧ ∀ (d e : D) (Q : D → Prop), g d e Q → ∀ (H S : Hp) (u v : V) (Q' : VK), Same S H → Dat S d u → Dat S e v → (∀ z y, Q z → Dat S z y → Q' y H) → r u v H Q'
theorem pipAdd : PipD X .Add (gInt0 fun i j => i + j) := by
  refine ⟨_, ip_add, fun d e Q h H S u v Q' sh hd he k => ?_⟩
  unfold gInt0 at h
  split at h
  · unfold Dat at hd he
    exact ⟨_, _, hd, he, k _ _ h .i⟩
  · exact h.elim
theorem pipMul : PipD X .Mult (gInt CMulW fun i j => i * j) := by
  refine ⟨rI CMulW fun i j => .int (i * j), ?_, fun d e Q h H S u v Q' sh hd he k => ?_⟩
  · intro pins s σ H x y v u Q I r1 r2 h
    have o : OpR X (inplaceOp .Mult) (rI CMulW fun i j => .int (i * j)) := opI fun _ _ _ _ _ _ _ hc q => imul_int q hc.ok
    exact o pins s σ H x y v u Q I r1 r2 h
  · unfold gInt at h
    split at h
    · unfold Dat at hd he
      exact ⟨_, _, hd, he, h.1, k _ _ h.2 .i⟩
    · exact h.elim
def wsAug (i : Nat) (g : D → D → (D → Prop) → Prop) (w : WE) : WS := fun q ρ => match ρ[i]? with
  | some (.fz d) => w q.ex ρ fun d' => g d d' fun z => q.nx (ρ.set i (.fz z))
  | _ => False
theorem sd_aug (i : Nat) {x : Str} {p : Pos} {op : Operator} {g : D → D → (D → Prop) → Prop} (hN : X.N.Nodup) (ho : PipD X op g) (he : ED X E e w) (hi : X.N[i]? = some x := by rfl) (hx : Loc X.env.scope x := by first | exact Or.inl rfl | exact Or.inr rfl)
    (hf : X.fn x = true ∨ X.env.scope.names.lookup x = some .local := by first | exact .inl rfl | exact .inr rfl) : SD X E (.AugAssign (.Name x p) op e pos) (wsAug i g w) := by
  obtain ⟨t, pe, s⟩ := he.ex
  obtain ⟨r, pi, si⟩ := ho.ex
  refine ⟨_, ps_aug hN hi hx pe pi hf, fun q ρ hw F σ H S D rp o => ?_⟩
  unfold wsAug at hw
  split at hw
  · rename_i d hi
    obtain ⟨v, e, hd⟩ := rp.fz hi
    refine ⟨v, e, s q.ex ρ _ hw F σ H S _ rp (o.exOk rp) fun d' v' H1 S1 q1 g1 h1 => ?_⟩
    exact si d d' _ q1 H1 S1 v v' _ g1.sh (Dat.mono g1.ss _ _ hd) h1 fun z y q2 h2 => o.nx _ _ H1 S1 q2 ((rp.grow g1).set h2)
  · exact hw.elim

/-! ### methods that change a slot's own list -/
structure MutD (X : Cx) (id : String) (g : List D → List D → (List D → Prop) → Prop) : Prop where
  ex : ∃ r : V → List V → Hp → VK → Prop, MtR X id r ∧ ∀ (xs ds : List D) (Q : List D → Prop), g xs ds Q → ∀ (H S : Hp) (l : Addr) (us vs : List V) (Q' : VK), Same S H → H l = some (.lst us) → Dats S xs us → Dats S ds vs →
    (∀ ys ws v, Q ys → Dats S ys ws → Q' v (upd H l (.lst ws))) → r (.ref l) vs H Q'
def gApp : List D → List D → (List D → Prop) → Prop
  | xs, [d], Q => xs.length < sizeLine ∧ Q (xs ++ [d])
  | _, _, _ => False
theorem dats1 {S : Hp} {d : D} {vs : List V} (h : Dats S [d] vs) : ∃ v, vs = [v] ∧ Dat S d v := by
  unfold Dats Dats at h
  obtain ⟨v, _, rfl, h, rfl⟩ := h
  exact ⟨v, rfl, h⟩
theorem mApp : MutD X "list.append" gApp := by
  refine ⟨_, mt_append, fun xs ds Q h H S l us vs Q' sh hl hu hd k => ?_⟩
  unfold gApp at h
  split at h
  · obtain ⟨v, rfl, hv⟩ := dats1 hd
    exact ⟨l, us, v, rfl, rfl, hl, by rw [hu.len]; exact h.1, k _ _ _ h.2 (hu.app (.one hv))⟩
  · exact h.elim
def gExt : List D → List D → (List D → Prop) → Prop
  | xs, [.lst ys], Q => xs.length + ys.length ≤ sizeLine ∧ Q (xs ++ ys)
  | _, _, _ => False
theorem mExt : MutD X "list.extend" gExt := by
  refine ⟨_, mt_extend, fun xs ds Q h H S l us vs Q' sh hl hu hd k => ?_⟩
  unfold gExt at h
  split at h
  · obtain ⟨v, rfl, hv⟩ := dats1 hd
    unfold Dat at hv
    obtain ⟨b, ws, rfl, r, z⟩ := hv
    exact ⟨l, b, us, ws, rfl, rfl, hl, sh _ _ r, by rw [hu.len, z.len]; exact h.1, k _ _ _ h.2 (hu.app z)⟩
  · exact h.elim
def gPop0 : List D → List D → (List D → Prop) → Prop
  | xs, [], Q => xs ≠ [] ∧ Q xs.dropLast
  | _, _, _ => False
theorem mPop : MutD X "list.pop" gPop0 := by
  refine ⟨_, mt_pop, fun xs ds Q h H S l us vs Q' sh hl hu hd k => ?_⟩
  unfold gPop0 at h
  split at h
  · unfold Dats at hd
    subst hd
    have hlen := hu.len
    have hpos : 0 < us.length := by
      rw [hlen]
      exact List.length_pos_iff.mpr h.1
    exact ⟨l, us, us[us.length - 1], rfl, rfl, hl, List.getElem?_eq_getElem (by omega), k _ _ _ h.2 hu.dropLast⟩
  · exact h.elim
def gRev : List D → List D → (List D → Prop) → Prop
  | xs, [], Q => Q xs.reverse
  | _, _, _ => False
theorem mRev : MutD X "list.reverse" gRev := by
  refine ⟨_, mt_reverse, fun xs ds Q h H S l us vs Q' sh hl hu hd k => ?_⟩
  unfold gRev at h
  split at h
  · unfold Dats at hd
    subst hd
    exact ⟨l, us, rfl, rfl, hl, k _ _ _ h hu.rev⟩
  · exact h.elim
variable {T name id : String} {es : List Expr} {apos mpos : Pos} {p : Pos} {x : Str}
def wMut (i : Nat) (g : List D → List D → (List D → Prop) → Prop) (wl : WL) : WS := fun q ρ => match ρ[i]? with
  | some (.own m (.lst xs)) => wl q.ex ρ fun ds => g xs ds fun ys => q.nx (ρ.set i (.own m (.lst ys)))
  | _ => False
theorem mut_sound {i : Nat} {g : List D → List D → (List D → Prop) → Prop} {r : V → List V → Hp → VK → Prop} {t : TA}
    (so : ∀ (xs ds : List D) (Q : List D → Prop), g xs ds Q → ∀ (H S : Hp) (l : Addr) (us vs : List V) (Q' : VK), Same S H → H l = some (.lst us) → Dats S xs us → Dats S ds vs →
      (∀ ys ws v, Q ys → Dats S ys ws → Q' v (upd H l (.lst ws))) → r (.ref l) vs H Q')
    (s : ∀ (x : XS) (ρ : Ev) (Q : List D → Prop), wl x ρ Q → ∀ (F : Fr) (σ : L2.St) (H S : Hp) (Q' : List V → Hp → Prop), Rep F ρ σ H S → ExOk X.mg E x H S →
      (∀ ds vs H' S', Q ds → Grow H S H' S' → Dats S' ds vs → Q' vs H') → t σ H Q')
    (q : DEnds) (ρ : Ev) (hw : wMut i g wl q ρ) (F : Fr) (σ : L2.St) (H S : Hp) (D : Ends) (rp : Rep F ρ σ H S) (o : EndsOk X.mg E F q D) : tDrop (tBM X.K "list" r (tVar i) t) D σ H := by
  unfold wMut at hw
  split at hw
  · rename_i m xs hi
    obtain ⟨l, u, e, h1, h2, ⟨us, rfl, h3⟩, _⟩ := rp.own hi
    refine ⟨.ref l, e, .inl ⟨rfl, _, .of h2⟩, ?_⟩
    refine s q.ex ρ _ hw F σ H S _ rp (o.exOk rp) fun ds vs H1 S1 q1 g1 hd => ?_
    refine so xs ds _ q1 H1 S1 l us vs _ g1.sh (g1.hh.lst h2) (Dats.mono g1.ss _ _ h3) hd fun ys ws v q2 hy => ?_
    exact o.nx _ _ _ S1 q2 ((rp.grow g1).put (o' := .lst ws) hi e ⟨ws, rfl, hy⟩)
  · exact hw.elim
theorem sd_mut (i : Nat) {g : List D → List D → (List D → Prop) → Prop} (hm : MutD X id g) (slot : Slot "list" name id) (hty : typeOf (.builtin id) = pure (.type "method_descriptor")) (ha : AD X E (e :: es) wl)
    (hN : X.N[i]? = some x := by rfl) (hv : Vis X.env.scope x := by first | exact Or.inl rfl | exact Or.inr (Or.inl rfl) | exact Or.inr (Or.inr rfl)) (hd : (x == ("__debug__" : Str)) = false := by decide) (hcd : (x == ("__classdict__" : Str)) = false := by decide)
    (hbase : attributeBase (.Name x p) name X.env (eval (.Name x p) X.env) = eval (.Name x p) X.env := by rfl)
    (hfew : ((backTo mpos (starEach (e :: es) X.env)).all (fun x => !x.1) && (backToKw mpos (keywordEach [] X.env)).all (fun x => x.1.isSome)
      && decide ((e :: es).length + ([] : List Keyword).length + (if ([] : List Keyword).isEmpty then 0 else 1) < 30)) = true := by rfl)
    (hline : (apos.endLine == mpos.line) = true := by rfl) (hst : starEach (e :: es) X.env = (false, eval e X.env) :: starEach es X.env := by rfl) (hplain : (backTo mpos (starEach es X.env)).any (·.1) = false := by rfl)
    (hs : swapsWith (.Call (.Attribute (.Name x p) name apos) (e :: es) [] mpos) none pos.line X.env = pure false := by rfl) :
    SD X E (.Expr (.Call (.Attribute (.Name x p) name apos) (e :: es) [] mpos) pos) (wMut i g wl) := by
  obtain ⟨r, mr, so⟩ := hm.ex
  obtain ⟨t, pt, s⟩ := ha.ex
  exact ⟨_, ps_expr (pe_bm PySem.F.plainAttrs_list slot hty mr (pe_var hN hv hd hcd) pt hbase hfew hline hst hplain) hs, mut_sound so s⟩
theorem sd_mut0 (i : Nat) {g : List D → List D → (List D → Prop) → Prop} (hm : MutD X id g) (slot : Slot "list" name id) (hty : typeOf (.builtin id) = pure (.type "method_descriptor"))
    (hN : X.N[i]? = some x := by rfl) (hv : Vis X.env.scope x := by first | exact Or.inl rfl | exact Or.inr (Or.inl rfl) | exact Or.inr (Or.inr rfl)) (hd : (x == ("__debug__" : Str)) = false := by decide) (hcd : (x == ("__classdict__" : Str)) = false := by decide)
    (hbase : attributeBase (.Name x p) name X.env (eval (.Name x p) X.env) = eval (.Name x p) X.env := by rfl) (hline : (apos.endLine == mpos.line) = true := by rfl)
    (hs : swapsWith (.Call (.Attribute (.Name x p) name apos) [] [] mpos) none pos.line X.env = pure false := by rfl) :
    SD X E (.Expr (.Call (.Attribute (.Name x p) name apos) [] [] mpos) pos) (wMut i g wNil) := by
  obtain ⟨r, mr, so⟩ := hm.ex
  refine ⟨_, ps_expr (pe_bm0 PySem.F.plainAttrs_list slot hty mr (pe_var hN hv hd hcd) hbase hline) hs, fun q ρ hw F σ H S D rp o => ?_⟩
  unfold wMut at hw
  split at hw
  · rename_i m xs hi
    obtain ⟨l, u, e, h1, h2, ⟨us, rfl, h3⟩, _⟩ := rp.own hi
    refine ⟨.ref l, e, .inl ⟨rfl, _, .of h2⟩, ?_⟩
    refine so xs [] _ hw H S l us [] _ rp.sh h2 h3 .nil fun ys ws v q2 hy => ?_
    exact o.nx _ _ _ S q2 (rp.put (o' := .lst ws) hi e ⟨ws, rfl, hy⟩)
  · exact hw.elim
/-- l[k] = e, l a slot's own list -/
def wsSetIx (i : Nat) (w wb : WE) : WS := fun q ρ => w q.ex ρ fun d => match ρ[i]? with
  | some (.own m (.lst xs)) => wb q.ex ρ fun k => match k with
    | .int k => ∃ j, ixN xs.length k = some j ∧ q.nx (ρ.set i (.own m (.lst (xs.set j d))))
    | _ => False
  | _ => False
theorem sd_setIx (i : Nat) {tpos : Pos} (he : ED X E e w) (hb : ED X E b wb) (hN : X.N[i]? = some x := by rfl) (hv : Vis X.env.scope x := by first | exact Or.inl rfl | exact Or.inr (Or.inl rfl) | exact Or.inr (Or.inr rfl)) (hd : (x == ("__debug__" : Str)) = false := by decide) (hcd : (x == ("__classdict__" : Str)) = false := by decide)
    (ha : ∀ v, assign (.Subscript (.Name x p) b tpos) X.env v = (do
      let ov ← holding [v] (eval (.Name x p) X.env)
      let iv ← holding [v, ov] (eval b X.env)
      standAt tpos
      holding [v, ov, iv] (setItem ov iv v)
      release [v, ov, iv] []) := by intro _; rfl) (hs : swapsWithSole [.Subscript (.Name x p) b tpos] e pos.line X.env = pure false := by rfl) (hw : swappedStores [.Subscript (.Name x p) b tpos] e X.env = pure none := by rfl)
    (h1 : (assignEach [.Subscript (.Name x p) b tpos] X.env).map (·.2) = [assign (.Subscript (.Name x p) b tpos) X.env] := by rfl) :
    SD X E (.Assign [.Subscript (.Name x p) b tpos] e pos) (wsSetIx i w wb) := by
  obtain ⟨t, pe, s⟩ := he.ex
  obtain ⟨tb, pb, sb⟩ := hb.ex
  refine ⟨_, ps_asg pe (pg_sub (pe_var hN hv hd hcd) pb set_list ha) hs hw h1, fun q ρ hw F σ H S D rp o => ?_⟩
  refine s q.ex ρ _ hw F σ H S _ rp (o.exOk rp) fun d v H1 S1 q1 g1 h1 => ?_
  split at q1
  · rename_i m xs hi
    have rp1 := rp.grow g1
    obtain ⟨l, u, e, z1, z2, ⟨us, rfl, z3⟩, _⟩ := rp1.own hi
    refine ⟨.ref l, e, sb q.ex ρ _ q1 F σ H1 S1 _ rp1 (o.exOk rp1) fun k kv H2 S2 q2 g2 h2 => ?_⟩
    cases k with
    | int k =>
      unfold Dat at h2
      subst h2
      obtain ⟨j, hj, q2⟩ := q2
      exact ⟨l, us, k, j, rfl, rfl, g2.hh.lst z2, by rw [z3.len]; exact hj, o.nx _ _ _ S2 q2 ((rp1.grow g2).put hi e ⟨_, rfl, (Dats.mono g2.ss _ _ z3).set j (Dat.mono g2.ss _ _ h1)⟩)⟩
    | _ => exact q2.elim
  · exact q1.elim

/-! ### loops -/
def loopL (g : WG) (wb : WS) (q : DEnds) : List D → Ev → Prop
  | [], ρ => q.nx ρ
  | d :: ds, ρ => g d ρ fun ρ1 => wb { q with nx := loopL g wb q ds, ct := loopL g wb q ds, bk := q.nx } ρ1
def wFor (wi : WL) (g : WG) (wb : WS) : WS := fun q ρ => wi q.ex ρ fun ds => loopL g wb q ds ρ
theorem fg_in {F : Fr} {H S S1 : Hp} (f : FGrow { F with S0 := S1 } H S) (ss : Same F.S0 S1) (nw : ∀ a, F.H0 a ≠ none → S1 a = F.S0 a) : FGrow F H S :=
  ⟨f.hh, f.al, ss.trans f.ss, f.sh, fun a h => (f.nw a h).trans (nw a h), f.ft, f.tb⟩
theorem rep_in {F : Fr} {ρ : Ev} {σ : L2.St} {H S S1 : Hp} (r : Rep { F with S0 := S1 } ρ σ H S) (ss : Same F.S0 S1) (nw : ∀ a, F.H0 a ≠ none → S1 a = F.S0 a) : Rep F ρ σ H S := by
  refine ⟨fg_in r.fg ss nw, r.len, fun i sl h => ?_, r.dist⟩
  have q := r.at' i sl h
  cases sl with
  | un => trivial
  | fz d => exact q
  | own m c => exact q
theorem rep_to {F : Fr} {ρ : Ev} {σ : L2.St} {H S : Hp} (r : Rep F ρ σ H S) : Rep { F with S0 := S } ρ σ H S := by
  refine ⟨⟨r.fg.hh, r.fg.al, .refl _, r.fg.sh, fun _ _ => rfl, r.fg.ft, r.fg.tb⟩, r.len, fun i sl h => ?_, r.dist⟩
  have q := r.at' i sl h
  cases sl with
  | un => trivial
  | fz d => exact q
  | own m c => exact q
theorem sd_for {tg iter : Expr} {is : List Nat} {g : WG} {wi : WL} {body : List Stmt} (xk : XOk X E) (hc : X.calm = true) (hi : ID X E tg iter wi) (hg : GD X tg is g) (hb : SDs X E body ws) (hs : ∀ x, foldedSetIterable iter X.env x = pure x := by intro _; rfl) :
    SD X E (.For tg iter body [] pos) (wFor wi g ws) := by
  obtain ⟨ti, pti, si⟩ := hi.ex
  obtain ⟨tg, pg, sg⟩ := hg.ex
  obtain ⟨tb, pb, sb⟩ := hb.ex
  refine ⟨_, ps_for xk.own hc pti pg pb hs, fun q ρ hw F σ H S D rp o => ?_⟩
  refine si q.ex ρ _ hw F σ H S _ rp (o.exOk rp) fun ds J H1 S1 q1 g1 hJ => ?_
  have rp1 := rp.grow g1
  have ss1 := rp1.fg.ss
  have nw1 := rp1.fg.nw
  let W : Nat → Nat → L2.St → Hp → Prop := fun i m σ H => m = ds.length - i ∧ i ≤ ds.length ∧ ∃ ρ S, Rep { F with S0 := S1 } ρ σ H S ∧ loopL g ws q (ds.drop i) ρ
  refine ⟨W, ⟨ds.length, by simp, Nat.zero_le _, ρ, S1, rep_to rp1, q1⟩, ?_⟩
  rintro i m σ2 H2 ⟨rfl, hi, ρ2, S2, r2, hl⟩
  rcases Nat.lt_or_ge i ds.length with hlt | hge
  · obtain ⟨d, hdi⟩ : ∃ d, ds[i]? = some d := ⟨_, List.getElem?_eq_getElem hlt⟩
    obtain ⟨go, yl⟩ := (hJ i H2 S2 r2.fg.ss r2.fg.sh).1 d hdi
    have hdrop : ds.drop i = d :: ds.drop (i + 1) := by
      rw [List.drop_eq_getElem_cons hlt]
      congr 1
      rw [List.getElem?_eq_getElem hlt] at hdi
      exact Option.some.inj hdi
    rw [hdrop] at hl
    refine .inr ⟨go, W (i + 1) (ds.length - (i + 1)), fun σ' H' h => ⟨_, by omega, h⟩, fun x H' y => ?_⟩
    obtain ⟨S', g', dx⟩ := yl x H' y
    refine sg d ρ2 _ hl { F with S0 := S1 } σ2 H' S' x _ (r2.grow g') dx fun ρ3 σ3 h3 r3 _ => ?_
    refine sb _ ρ3 h3 { F with S0 := S1 } σ3 H' S' _ r3 ⟨fun ρ4 σ4 H4 S4 q4 r4 => ⟨rfl, hlt, ρ4, S4, r4, q4⟩, fun r ρ4 v σ4 H4 S4 q4 r4 p4 => o.rt r ρ4 v σ4 H4 S4 q4 (rep_in r4 ss1 nw1) p4,
      fun ρ4 σ4 H4 S4 q4 r4 => o.nx ρ4 σ4 H4 S4 q4 (rep_in r4 ss1 nw1), fun ρ4 σ4 H4 S4 q4 r4 => ⟨rfl, hlt, ρ4, S4, r4, q4⟩, fun n C H4 S4 h1 h2 h3 => o.ex n C H4 S4 h1 h2 (fg_in h3 ss1 nw1)⟩
  · have e : i = ds.length := by omega
    subst e
    rw [List.drop_length] at hl
    exact .inl ⟨(hJ _ H2 S2 r2.fg.ss r2.fg.sh).2 (Nat.le_refl _), o.nx ρ2 σ2 H2 S2 hl (rep_in r2 ss1 nw1)⟩
/-- while, by a word and a measure -/
def wWhile (wt : WT) (wb : WS) : WS := fun q ρ => ∃ I : Nat → Ev → Prop, (∃ m, I m ρ) ∧ ∀ m ρ, I m ρ → wt q.ex ρ fun b => Br b (wb { q with nx := fun ρ' => ∃ m', m' < m ∧ I m' ρ', ct := fun ρ' => ∃ m', m' < m ∧ I m' ρ', bk := q.nx } ρ) (q.nx ρ) ⟨⟩ ⟨⟩
theorem sd_while {c : Expr} {body : List Stmt} (xk : XOk X E) (hc : TD X E c wt) (hb : SDs X E body ws) : SD X E (.While c body [] pos) (wWhile wt ws) := by
  obtain ⟨t, p, s⟩ := hc.ex
  obtain ⟨tb, pb, sb⟩ := hb.ex
  refine ⟨_, ps_while xk.own p pb, fun q ρ hw F σ H S D rp o => ?_⟩
  obtain ⟨I, ⟨m0, h0⟩, turn⟩ := hw
  refine ⟨fun m σ H => ∃ ρ S, Rep F ρ σ H S ∧ I m ρ, ⟨m0, ρ, S, rp, h0⟩, ?_⟩
  rintro m σ2 H2 ⟨ρ2, S2, r2, h2⟩
  refine s q.ex ρ2 _ (turn m ρ2 h2) F σ2 H2 S2 _ r2 (o.exOk r2) fun b H3 S3 q3 g3 => ?_
  cases b with
  | true =>
    refine iteT ⟨fun σ' H' => ∃ m', m' < m ∧ ∃ ρ S, Rep F ρ σ' H' S ∧ I m' ρ, fun σ' H' h => h, ?_⟩
    exact sb _ ρ2 q3 F σ2 H3 S3 _ (r2.grow g3) ⟨fun ρ4 σ4 H4 S4 ⟨m', hm, q4⟩ r4 => ⟨m', hm, ρ4, S4, r4, q4⟩, o.rt, o.nx, fun ρ4 σ4 H4 S4 ⟨m', hm, q4⟩ r4 => ⟨m', hm, ρ4, S4, r4, q4⟩, o.ex⟩
  | false => exact iteF (o.nx ρ2 σ2 H3 S3 q3 (r2.grow g3))

/-! ### raise X('..') -/
structure ExcC (K : PySem.W.Frag) (mg : Str → Option Value) (n : Str) (C : Addr) : Prop where
  g : mg n = some (.ref C)
  x : PySem.W.excIn K C [.type "ValueError", .type "Exception", .type "BaseException", .type "object"] "ValueError.__new__" = true
  k : PySem.W.keepIn K (.ref C) = true
  b : PySem.W.subIn K (.ref C) (.type "BaseException") = some true
  t : PySem.W.typeIn K (.ref C) = some (.type "type")
def wsRaise (n : Str) : WS := fun q _ => q.ex n
theorem sd_raise {n m : Str} {C : Addr} {j : Nat} {p1 p2 p3 : Pos} (xk : XOk X E) (hc : X.calm = true) (c : ExcC X.K X.mg n C) (hg : Gl X n) (hdb : (n == ("__debug__" : Str)) = false := by decide) :
    SD X E (.Raise (some (.Call (.Name n p1) [.Constant (.str m) j p2] [] p3)) none pos) (wsRaise n) :=
  ⟨_, L2N.ps_raise hc xk.take (L2N.pmk_own PySem.F.excBase_ValueError c.x c.g c.k (raises_own c.b c.t) hg hdb), fun q ρ hw F σ H S D rp o => o.ex n C H S hw c.g rp.fg⟩
end

/-! ### a def by its body -/
def startE (n : Nat) (ds : List D) : Ev := ds.map .fz ++ List.replicate (n - ds.length) .un
theorem rep_start {H S : Hp} {N : List Str} {ds : List D} {vs : List V} (sh : Same S H) (tb : Tbq S H) (h : Dats S ds vs) (hl : ds.length ≤ N.length) : Rep { H0 := H, S0 := S, M := fun _ => False } (startE N.length ds) (L2.start N vs) H S := by
  have hlen := h.len
  refine ⟨⟨fun _ _ _ e _ => e, fun _ e => e, .refl _, sh, fun _ _ => rfl, fun _ _ _ h => h, tb⟩, ?_, fun i sl e => ?_, fun i j m m' c c' _ e _ => ?_⟩
  · unfold L2.start startE
    simp only [List.length_append, List.length_map, List.length_replicate]
    omega
  · unfold startE at e
    rcases Nat.lt_or_ge i ds.length with hi | hi
    · rw [List.getElem?_append_left (by simpa using hi), List.getElem?_map] at e
      cases q : ds[i]? with
      | none => rw [q] at e; cases e
      | some d =>
        rw [q] at e
        cases e
        obtain ⟨v, hv, hz⟩ := h.get q
        refine ⟨v, ?_, hz⟩
        unfold L2.start
        rw [List.getElem?_append_left (by rw [List.length_map, hlen]; exact hi), List.getElem?_map, hv]
        rfl
    · rw [List.getElem?_append_right (by simpa using hi), List.getElem?_replicate] at e
      split at e
      · cases e
        trivial
      · cases e
  · unfold startE at e
    rcases Nat.lt_or_ge i ds.length with hi | hi
    · rw [List.getElem?_append_left (by simpa using hi), List.getElem?_map] at e
      cases q : ds[i]? with
      | none => rw [q] at e; cases e
      | some d => rw [q] at e; cases e
    · rw [List.getElem?_append_right (by simpa using hi), List.getElem?_replicate] at e
      split at e
      · cases e
      · cases e
section
variable {P : Program} {w : World} {K : PySem.W.Frag} {mg : Str → Option Value} {base : Heap}
def endsOf (R : Rt → Prop) (x : XS) : DEnds := { nx := fun _ => R (.val .non), rt := fun r _ => R r, ex := x }
/-- the context of a def's body -/
abbrev cxF (P : Program) (w : World) (K : PySem.W.Frag) (mg : Str → Option Value) (base : Heap) (N : List Str) (qual : Str) (sc : Scope) (f : Addr) (cdv : Value) (A : Around) (outer : List Env) (s : Shared) (H : Hp) (E : XK) : Cx :=
  cxOf (L2N.CX P w) P w K mg base N qual sc f cdv A outer s H E
theorem okN {x qual : Str} {st : Stmt} {f : Addr} {fd : FuncData} {N ps : List Str} {k : Nat} {sp : Sp} (F : Fun K x qual st f fd) (S : FnScope N ps (defScope st)) (len : ∀ vs H Q E, sp vs H Q E → vs.length = ps.length)
    (hb : ∀ (cdv : Value) (A : Around) (outer : List Env) (s : Shared) (H : Hp) (vs : List V) (Q : VK) (E : XK), Room k (A.deeper (envOfC qual (defScope st) s.heap.objs.size f cdv)) → sp vs H Q E →
      ∃ t, PSs (cxF P w K mg base N qual (defScope st) f cdv A outer s H E) (defBody st) t ∧ t { nx := fun _ H' => Q .non H', rt := Q } (L2.start N vs) H) : FnOk P w K mg base (L2N.CX P w) (k + 1) f fd ps sp := by
  obtain ⟨_, _, _, _, _, _, cdv, _, _, rfl, lk, hc⟩ := F.ex
  exact fn_of lk hc S len fun A outer s H vs Q E => hb cdv A outer s H vs Q E
theorem xk_fn {N : List Str} {qual : Str} {sc : Scope} {f : Addr} {cdv : Value} {A : Around} {outer : List Env} {s : Shared} {H : Hp} {E : XK} : XOk (cxF P w K mg base N qual sc f cdv A outer s H E) E := by
  have tk : L2N.Takes (cxF P w K mg base N qual sc f cdv A outer s H E) (fun cls d _ H => E cls d H) := L2N.takes_of rfl rfl rfl rfl
  exact ⟨L2N.passes_call tk fun _ _ _ _ h => h, tk, passes_of rfl⟩
theorem fn_ok {x qual : Str} {st : Stmt} {f : Addr} {fd : FuncData} {N ps : List Str} {k : Nat} {sp : Spec} (F : Fun K x qual st f fd) (S : FnScope N ps (defScope st)) (len : ∀ ds x R, sp ds x R → ds.length = ps.length)
    (hbody : ∀ (cdv : Value) (A : Around) (outer : List Env) (s : Shared) (H : Hp) (E : XK), Room k (A.deeper (envOfC qual (defScope st) s.heap.objs.size f cdv)) → XOk (cxF P w K mg base N qual (defScope st) f cdv A outer s H E) E →
      ∃ ws, SDs (cxF P w K mg base N qual (defScope st) f cdv A outer s H E) E (defBody st) ws ∧ ∀ ds x R, sp ds x R → ws (endsOf R x) (startE N.length ds)) :
    FnOk P w K mg base (L2N.CX P w) (k + 1) f fd ps (spOf mg sp) := by
  have hpl : ps.length ≤ N.length := by
    have := congrArg List.length S.pre
    rw [List.length_take] at this
    omega
  refine okN F S (fun vs H Q E h => ?_) (fun cdv A outer s H vs Q E hr h => ?_)
  · obtain ⟨ds, S, x, R, _, hd, hs, _⟩ := h
    rw [hd.len]
    exact len ds x R hs
  · obtain ⟨ds, S0, x, R, ⟨sh, tb⟩, hd, hs, k1, k2⟩ := h
    obtain ⟨ws, sd, pure⟩ := hbody cdv A outer s H E hr xk_fn
    obtain ⟨t, pt, so⟩ := sd.ex
    have hl : ds.length ≤ N.length := by rw [len ds x R hs]; exact hpl
    have gr : ∀ {H' S' : Hp}, FGrow { H0 := H, S0 := S0, M := fun _ => False } H' S' → Grow H S0 H' S' := fun f => ⟨⟨fun a o e n => f.hh a o (fun z => z) e n, f.al, f.ft⟩, f.ss, f.sh, f.nw⟩
    refine ⟨t, pt, so _ _ (pure ds x R hs) _ _ H S0 _ (rep_start sh tb hd hl) ⟨fun ρ σ H' S' q r => k1 _ _ H' S' q (gr r.fg) (show Dat S' .non .non from .n), fun r ρ v σ H' S' q rp p => k1 r v H' S' q (gr rp.fg) p, fun _ _ _ _ z => z.elim, fun _ _ _ _ z => z.elim, fun n C H' S' h1 h2 h3 => k2 n C H' S' h1 h2 (gr h3)⟩⟩
end
end NL

namespace NL
open PySem PySem.Spec L2
open PyProof.Rows hiding St
variable [KC]

/-! ### a def that changes the list handed in first -/
structure GrowM (p : Addr) (H S H' S' : Hp) : Prop where
  hh : ∀ a o, a ≠ p → H a = some o → (∀ ps, o ≠ .tbl ps) → H' a = some o
  ne : ∀ a, H a ≠ none → H' a ≠ none
  tab : ∀ P q, (P, q) ∈ KC.T → LamX.TabS H P q → LamX.TabS H' P q
  ss : Same S S'
  sh : Same S' H'
  nw : ∀ a, H a ≠ none → S' a = S a
theorem Rep.putM {F : Fr} {ρ : Ev} {σ : L2.St} {H S H' S' : Hp} {i : Nat} {m : Bool} {c c' : Cn} {p : Addr} {o' : HO} (r : Rep F ρ σ H S) (h : ρ[i]? = some (.own m c)) (hp : σ[i]? = some (some (.ref p))) (g : GrowM p H S H' S') (hH : H' p = some o') (hc : CnOk S' c' o') :
    Rep F (ρ.set i (.own m c')) σ H' S' := by
  obtain ⟨p', o1, e1, e2, e3, e4, e5, e6⟩ := r.own h
  have : p' = p := by
    rw [e1] at hp
    cases hp
    rfl
  subst this
  have hl : i < ρ.length := by
    rcases Nat.lt_or_ge i ρ.length with q | q
    · exact q
    · rw [List.getElem?_eq_none q] at h
      cases h
  have keep := g.ne
  refine ⟨⟨fun a u hm ha nt => ?_, fun a ha => keep a (r.fg.al a ha), r.fg.ss.trans g.ss, g.sh, fun a ha => (g.nw a (r.fg.al a ha)).trans (r.fg.nw a ha), fun P q m h => g.tab P q m (r.fg.ft P q m h), ⟨fun q h => g.tab _ _ h (r.fg.tb.1 q h), fun q h => (g.nw q.1 (tab_ne (r.fg.tb.1 q h))).trans (r.fg.tb.2 q h)⟩⟩, by simp [r.len], fun j sl e => ?_, fun j k m1 m2 c1 c2 n q1 q2 => ?_⟩
  · have ne : a ≠ p' := fun z => by
      subst z
      cases m with
      | true => exact hm (e5 rfl)
      | false => rw [e6 rfl] at ha; cases ha
    exact g.hh a u ne (r.fg.hh a u hm ha nt) nt
  · by_cases z : i = j
    · subst z
      rw [List.getElem?_set_self hl] at e
      cases e
      exact ⟨p', o', hp, by rw [g.nw p' (by rw [e3]; intro z; cases z)]; exact e2, hH, hc, e5, e6⟩
    · rw [List.getElem?_set_ne z] at e
      have q := r.at' j sl e
      cases sl with
      | un => trivial
      | fz d =>
        obtain ⟨v, f1, f2⟩ := q
        exact ⟨v, f1, Dat.mono g.ss d v f2⟩
      | own m3 c3 =>
        obtain ⟨p3, o3, f1, f2, f3, f4, f5⟩ := q
        have ne : p3 ≠ p' := fun z3 => r.dist i j m m3 c c3 z h e (by rw [hp, f1, z3])
        exact ⟨p3, o3, f1, by rw [g.nw p3 (by rw [f3]; intro z; cases z)]; exact f2, g.hh _ _ ne f3 f4.ntb.1, f4.mono g.ss, f5⟩
  · have conv : ∀ (l : Nat) (m4 : Bool) (c4 : Cn), (ρ.set i (.own m c'))[l]? = some (.own m4 c4) → ∃ m5 c5, ρ[l]? = some (.own m5 c5) := fun l m4 c4 q => by
      by_cases z : i = l
      · subst z
        exact ⟨m, c, h⟩
      · rw [List.getElem?_set_ne z] at q
        exact ⟨_, _, q⟩
    obtain ⟨_, _, w1⟩ := conv _ _ _ q1
    obtain ⟨_, _, w2⟩ := conv _ _ _ q2
    exact r.dist j k _ _ _ _ n w1 w2
/-- content, the other arguments, behind: content, what is told -/
abbrev SpecM := List D → List D → (List D → D → Prop) → Prop
def spOfM (sp : SpecM) : Sp := fun vs H Q _ => ∃ p us rest xs ds S R, vs = .ref p :: rest ∧ (Same S H ∧ Tbq S H) ∧ S p = none ∧ H p = some (.lst us) ∧ Dats S xs us ∧ Dats S ds rest ∧ sp xs ds R ∧
  (∀ ys d v H' S' ws, R ys d → GrowM p H S H' S' → H' p = some (.lst ws) → Dats S' ys ws → Dat S' d v → Q v H')
section
variable {P : Program} {w : World} {K : PySem.W.Frag} {mg : Str → Option Value} {base : Heap}
def endM (R : List D → D → Prop) (r : Rt) (ρ : Ev) : Prop := match r, (ρ[0]? : Option Sl) with
  | .val d, some (.own true (.lst ys)) => R ys d
  | _, _ => False
def endsM (R : List D → D → Prop) : DEnds where
  nx := endM R (.val .non)
  rt := endM R
  ex := fun _ => False
def startM (n : Nat) (xs ds : List D) : Ev := .own true (.lst xs) :: startE (n - 1) ds
theorem rep_startM {H S : Hp} {N : List Str} {ds xs : List D} {vs us : List V} {p : Addr} (sh : Same S H) (tb : Tbq S H) (hS : S p = none) (hH : H p = some (.lst us)) (hx : Dats S xs us) (h : Dats S ds vs) (hl : ds.length + 1 ≤ N.length) :
    Rep { H0 := H, S0 := S, M := fun a => a = p } (startM N.length xs ds) (L2.start N (.ref p :: vs)) H S := by
  have hlen := h.len
  have st : L2.start N (.ref p :: vs) = some (.ref p) :: (vs.map some ++ List.replicate (N.length - (vs.length + 1)) none) := rfl
  refine ⟨⟨fun _ _ _ e _ => e, fun _ e => e, .refl _, sh, fun _ _ => rfl, fun _ _ _ h => h, tb⟩, ?_, fun i sl e => ?_, fun i j m m' c c' ne e1 e2 => ?_⟩
  · rw [st]
    unfold startM startE
    simp only [List.length_append, List.length_map, List.length_replicate, List.length_cons]
    omega
  · rw [st]
    unfold startM startE at e
    cases i with
    | zero =>
      cases e
      exact ⟨p, _, rfl, hS, hH, ⟨us, rfl, hx⟩, fun _ => rfl, fun z => by cases z⟩
    | succ i =>
      rw [List.getElem?_cons_succ] at e ⊢
      rcases Nat.lt_or_ge i ds.length with hi | hi
      · rw [List.getElem?_append_left (by simpa using hi), List.getElem?_map] at e
        cases q : ds[i]? with
        | none => rw [q] at e; cases e
        | some d =>
          rw [q] at e
          cases e
          obtain ⟨v, hv, hz⟩ := h.get q
          refine ⟨v, ?_, hz⟩
          rw [List.getElem?_append_left (by rw [List.length_map, hlen]; exact hi), List.getElem?_map, hv]
          rfl
      · rw [List.getElem?_append_right (by simpa using hi), List.getElem?_replicate] at e
        split at e
        · cases e
          trivial
        · cases e
  · have only : ∀ (i : Nat) (m : Bool) (c : Cn), (startM N.length xs ds)[i]? = some (.own m c) → i = 0 := fun i m c e => by
      unfold startM startE at e
      cases i with
      | zero => rfl
      | succ i =>
        rw [List.getElem?_cons_succ] at e
        rcases Nat.lt_or_ge i ds.length with hi | hi
        · rw [List.getElem?_append_left (by simpa using hi), List.getElem?_map] at e
          cases q : ds[i]? with
          | none => rw [q] at e; cases e
          | some d => rw [q] at e; cases e
        · rw [List.getElem?_append_right (by simpa using hi), List.getElem?_replicate] at e
          split at e
          · cases e
          · cases e
    exact absurd ((only i m c e1).trans (only j m' c' e2).symm) ne
theorem fn_okM {x qual : Str} {st : Stmt} {f : Addr} {fd : FuncData} {N ps : List Str} {k : Nat} {sp : SpecM} (F : Fun K x qual st f fd) (S : FnScope N ps (defScope st)) (len : ∀ xs ds R, sp xs ds R → ds.length + 1 = ps.length)
    (hbody : ∀ (cdv : Value) (A : Around) (outer : List Env) (s : Shared) (H : Hp) (E : XK), Room k (A.deeper (envOfC qual (defScope st) s.heap.objs.size f cdv)) → XOk (cxF P w K mg base N qual (defScope st) f cdv A outer s H E) E →
      ∃ ws, SDs (cxF P w K mg base N qual (defScope st) f cdv A outer s H E) E (defBody st) ws ∧ ∀ xs ds R, sp xs ds R → ws (endsM R) (startM N.length xs ds)) :
    FnOk P w K mg base (L2N.CX P w) (k + 1) f fd ps (spOfM sp) := by
  have hpl : ps.length ≤ N.length := by
    have := congrArg List.length S.pre
    rw [List.length_take] at this
    omega
  refine okN F S (fun vs H Q E h => ?_) (fun cdv A outer s H vs Q E hr h => ?_)
  · obtain ⟨p, us, rest, xs, ds, S0, R, rfl, _, _, _, _, hd, hs, _⟩ := h
    rw [List.length_cons, hd.len]
    exact len xs ds R hs
  · obtain ⟨p, us, rest, xs, ds, S0, R, rfl, ⟨sh, tb⟩, hS, hH, hx, hd, hs, k1⟩ := h
    obtain ⟨ws, sd, pure⟩ := hbody cdv A outer s H E hr xk_fn
    obtain ⟨t, pt, so⟩ := sd.ex
    have hl : ds.length + 1 ≤ N.length := by rw [len xs ds R hs]; exact hpl
    have fin : ∀ {ρ : Ev} {σ : L2.St} {H' S' : Hp} {ys : List D} {d : D} {v : V}, Rep { H0 := H, S0 := S0, M := fun a => a = p } ρ σ H' S' → ρ[0]? = some (.own true (.lst ys)) → R ys d → Dat S' d v → Q v H' := fun {ρ σ H' S' ys d v} r h0 q hd => by
      obtain ⟨p', o, e1, e2, e3, ⟨ws, rfl, e4⟩, e5, _⟩ := r.own h0
      have : p' = p := e5 rfl
      subst this
      exact k1 ys d v H' S' ws q ⟨fun a o n e nt => r.fg.hh a o n e nt, r.fg.al, r.fg.ft, r.fg.ss, r.fg.sh, r.fg.nw⟩ e3 e4 hd
    refine ⟨t, pt, so _ _ (pure xs ds R hs) _ _ H S0 _ (rep_startM sh tb hS hH hx hd hl) ⟨fun ρ σ H' S' q r => ?_, fun r ρ v σ H' S' q rp pp => ?_, fun _ _ _ _ z => z.elim, fun _ _ _ _ z => z.elim, fun n C H' S' h1 h2 h3 => h1.elim⟩⟩
    · simp only [endsM, endM] at q
      split at q
      · rename_i d ys h1 h0
        cases h1
        exact fin (v := .non) r h0 q (show Dat S' .non .non from .n)
      · exact q.elim
    · simp only [endsM, endM] at q
      split at q
      · rename_i d ys h0
        exact fin rp h0 q pp
      · exact q.elim
end
section
variable {X : Cx} {E : XK} {e a b : Expr} {es : List Expr} {pos : Pos} {w wa wb we : WE} {wl : WL} {k : Nat} {f : Addr} {fd : FuncData} {ps : List Str} {sp : SpecM} {x y : Str} {p p1 mpos : Pos}
def AskM (sp : SpecM) (xs ds : List D) (K : List D → D → Prop) (_ : Tg K) : Prop := sp xs ds K
def wsCallM (i : Nat) (sp : SpecM) (wl : WL) : WS := fun q ρ => match ρ[i]? with
  | some (.own m (.lst xs)) => wl q.ex ρ fun ds => AskM sp xs ds (fun ys _ => q.nx (ρ.set i (.own m (.lst ys)))) ⟨⟩
  | _ => False
/-- f(l, ..) as a statement, l a slot's own list that f changes -/
theorem sd_callM (i : Nat) (G : FnOk X.prog X.w X.K X.mg X.base (L2N.CX X.prog X.w) k f fd ps (spOfM sp)) (hr : Room k X.A) (xk : XOk X E) (hg : Gl X x) (hm : X.mg x = some (.ref f)) (hk : PySem.W.keepIn X.K (.ref f) = true) (hb : Binds X.K fd ps [])
    (ha : AD X E es wl) (hN : X.N[i]? = some y := by rfl) (hv : Vis X.env.scope y := by first | exact Or.inl rfl | exact Or.inr (Or.inl rfl) | exact Or.inr (Or.inr rfl)) (hd : (y == ("__debug__" : Str)) = false := by decide) (hcd : (y == ("__classdict__" : Str)) = false := by decide)
    (hdb : (x == ("__debug__" : Str)) = false := by decide) (he : starEach (.Name y p1 :: es) X.env = (false, eval (.Name y p1) X.env) :: starEach es X.env := by rfl) (hpl : (backTo mpos (starEach es X.env)).any (·.1) = false := by rfl)
    (hs : swapsWith (.Call (.Name x p) (.Name y p1 :: es) [] mpos) none pos.line X.env = pure false := by rfl) :
    SD X E (.Expr (.Call (.Name x p) (.Name y p1 :: es) [] mpos) pos) (wsCallM i sp wl) := by
  obtain ⟨t, pt, s⟩ := ha.ex
  have px : Passes (L2N.CX X.prog X.w) X E := xk.pass
  refine ⟨_, ps_expr (pe_call G hr hg hm hk hb .nil px (pa_cons (pe_var hN hv hd hcd) pt he) hdb he hpl) hs, fun q ρ hw F σ H S D rp o => ?_⟩
  unfold wsCallM at hw
  split at hw
  · rename_i m xs hi
    obtain ⟨l, u, e, h1, h2, ⟨us, rfl, h3⟩, _⟩ := rp.own hi
    refine ⟨.ref l, e, ?_⟩
    refine s q.ex ρ _ hw F σ H S _ rp (o.exOk rp) fun ds vs H1 S1 q1 g1 hd => ?_
    have rp1 := rp.grow g1
    refine ⟨l, us, vs, xs, ds, S1, _, by rw [List.append_nil], ⟨g1.sh, rp1.fg.tb⟩, by rw [g1.nw l (by rw [h2]; intro z; cases z)]; exact h1, g1.hh.lst h2, Dats.mono g1.ss _ _ h3, hd, q1, fun ys d v H2 S2 ws q2 g2 z1 z2 z3 => ?_⟩
    exact o.nx _ _ H2 S2 q2 (rp1.putM hi e g2 z1 ⟨ws, rfl, z2⟩)
  · exact hw.elim
/-- x = x + l.pop()[c] : ints -/
def wsPopAdd (j i : Nat) (c : Int) : WS := fun q ρ => match ρ[j]?, ρ[i]? with
  | some (.fz (.int n)), some (.own m (.lst xs)) => ∃ ds k, xs.getLast? = some (.tup ds) ∧ atI ds c = some (.int k) ∧ q.nx ((ρ.set i (.own m (.lst xs.dropLast))).set j (.fz (.int (n + k))))
  | _, _ => False
theorem sd_popAdd (j i : Nat) {c : Int} {jj : Nat} {p2 p3 p4 p5 p6 p7 p8 : Pos} (hN : X.N.Nodup) (hj : X.N[j]? = some x := by rfl) (hi : X.N[i]? = some y := by rfl) (hx : Loc X.env.scope x := by first | exact Or.inl rfl | exact Or.inr rfl) (hvx : Vis X.env.scope x := by first | exact Or.inl rfl | exact Or.inr (Or.inl rfl) | exact Or.inr (Or.inr rfl))
    (hvy : Vis X.env.scope y := by first | exact Or.inl rfl | exact Or.inr (Or.inl rfl) | exact Or.inr (Or.inr rfl)) (hd : (x == ("__debug__" : Str)) = false := by decide) (hcd : (x == ("__classdict__" : Str)) = false := by decide) (hdy : (y == ("__debug__" : Str)) = false := by decide) (hcdy : (y == ("__classdict__" : Str)) = false := by decide)
    (hf : X.fn x = true ∨ X.env.scope.names.lookup x = some .local := by first | exact .inl rfl | exact .inr rfl) (hij : i ≠ j := by decide)
    (hbase : attributeBase (.Name y p4) "pop" X.env (eval (.Name y p4) X.env) = eval (.Name y p4) X.env := by rfl) (hline : (p5.endLine == p6.line) = true := by rfl)
    (hs : swapsWith (.BinOp (.Name x p2) .Add (.Subscript (.Call (.Attribute (.Name y p4) "pop" p5) [] [] p6) (.Constant (.int c) jj p7) p8) p3) (some (.Name x p1)) pos.line X.env = pure false := by rfl) :
    SD X E (.Assign [.Name x p1] (.BinOp (.Name x p2) .Add (.Subscript (.Call (.Attribute (.Name y p4) "pop" p5) [] [] p6) (.Constant (.int c) jj p7) p8) p3) pos) (wsPopAdd j i c) := by
  refine ⟨_, ps_set hN hj hx (pe_op op_add (pe_var hj hvx hd hcd) (pe_ix ix_tup (pe_bm0 PySem.F.plainAttrs_list PySem.F.slot_list_pop PySem.F.type_list_pop mt_pop (pe_var hi hvy hdy hcdy) hbase hline) pe_int fun _ _ => rfl)) hs hf, fun q ρ hw F σ H S D rp o => ?_⟩
  unfold wsPopAdd at hw
  split at hw
  · rename_i n m xs ej ei
    obtain ⟨ds, k, e1, e2, q1⟩ := hw
    obtain ⟨v, ev, hv⟩ := rp.fz ej
    unfold Dat at hv
    subst hv
    obtain ⟨l, u, el, h1, h2, ⟨us, rfl, h3⟩, _⟩ := rp.own ei
    have hne : xs ≠ [] := fun z => by rw [z] at e1; cases e1
    have hpos := List.length_pos_iff.mpr hne
    have hlen := h3.len
    have e1' : xs[us.length - 1]? = some (.tup ds) := by rw [hlen, ← List.getLast?_eq_getElem?]; exact e1
    obtain ⟨y, hy, hz⟩ := h3.get e1'
    unfold Dat at hz
    obtain ⟨a, ws, rfl, ra, hw⟩ := hz
    obtain ⟨z, hz1, hz2⟩ := atI_dats hw e2
    unfold Dat at hz2
    subst hz2
    have ne : a ≠ l := fun z => by
      have := rp.sh _ _ ra
      rw [z, h2] at this
      cases this
    refine ⟨.int n, ev, .ref l, el, .inl ⟨rfl, us, .of h2⟩, l, us, .ref a, rfl, rfl, h2, hy, a, ws, c, .int k, rfl, rfl, .of ?_, hz1, n, k, rfl, rfl, ?_⟩
    · rw [upd_ne ne]
      exact rp.sh _ _ ra
    · exact o.nx _ _ _ S q1 ((rp.put (c' := .lst xs.dropLast) (o' := .lst us.dropLast) ei el ⟨_, rfl, h3.dropLast⟩).set .i)
  · exact hw.elim
end
end NL

namespace NL
open PySem PySem.Spec L2
open PyProof.Rows hiding St
variable [KC]
section
variable {X : Cx} {E : XK} {b e : Expr} {w wb : WE} {x : Str} {p pos : Pos}
omit [KC] in
theorem ixN_at {n j : Nat} (hj : j < n) : ixN n (j : Int) = some j := by
  unfold ixN
  simp only [Int.natCast_nonneg, if_true, Int.toNat_natCast]
  exact if_pos (by omega)
theorem get_list : PGet X (rIxL X.K) := by
  intro pins s σ H x y v u Q I rx ry h
  obtain ⟨p, xs, i, z, rfl, rfl, hq, he, q⟩ := h
  cases rx
  obtain ⟨t, rfl⟩ := ry
  obtain ⟨its, r, pl, hz⟩ := I.list hq
  obtain ⟨j, h1, h2, h3, h4, h5⟩ := atI_get he
  obtain ⟨w, ew, rw'⟩ := r.get h2
  have hl := r.length
  have hn := line63
  have fin : EP X pins σ Q w s := ⟨z, H, I, rw', q⟩
  by_cases h0 : 0 ≤ i
  · have hj : i.toNat = j := by
      rw [seqIndex_of h0 h5] at h1
      exact Option.some.inj h1
    exact wpAny_getItem_list pl.isList h0 (by omega) (by rw [hj]; simpa using ew) fin
  · have hj : (i + (its.toArray.size : Int)).toNat = j := by
      rw [seqIndex_neg (by omega) h4] at h1
      rw [List.size_toArray, ← hl]
      exact Option.some.inj h1
    exact wpAny_getItem_list_neg pl.isList (by omega) (by rw [List.size_toArray] <;> omega) (by omega) (by rw [hj]; simpa using ew) fin
/-- l[k] op= e, l a slot's own list -/
def wsAugIx (i : Nat) (g : D → D → (D → Prop) → Prop) (wb w : WE) : WS := fun q ρ => match ρ[i]? with
  | some (.own m (.lst xs)) => wb q.ex ρ fun k => match k with
    | .int k => ∃ (j : Nat) (d : D), k = (j : Int) ∧ xs[j]? = some d ∧ w q.ex ρ fun e => g d e fun z => q.nx (ρ.set i (.own m (.lst (xs.set j z))))
    | _ => False
  | _ => False
theorem sd_augIx (i : Nat) {tpos : Pos} {op : Operator} {g : D → D → (D → Prop) → Prop} (ho : PipD X op g) (hb : ED X E b wb) (he : ED X E e w) (hN : X.N[i]? = some x := by rfl) (hv : Vis X.env.scope x := by first | exact Or.inl rfl | exact Or.inr (Or.inl rfl) | exact Or.inr (Or.inr rfl))
    (hd : (x == ("__debug__" : Str)) = false := by decide) (hcd : (x == ("__classdict__" : Str)) = false := by decide)
    (ha : ∀ ov iv new, augStore b ov iv new = (do holding [new, ov, iv] (setItem ov iv new); release [new, ov, iv] []; pure .next) := by intros; rfl) :
    SD X E (.AugAssign (.Subscript (.Name x p) b tpos) op e pos) (wsAugIx i g wb w) := by
  obtain ⟨t, pe, s⟩ := he.ex
  obtain ⟨tb, pb, sb⟩ := hb.ex
  obtain ⟨r, pi, si⟩ := ho.ex
  refine ⟨_, ps_augS (pe_var hN hv hd hcd) pb get_list pe pi set_list ha, fun q ρ hw F σ H S D rp o => ?_⟩
  unfold wsAugIx at hw
  split at hw
  · rename_i m xs hi
    obtain ⟨l, u, e, z1, z2, ⟨us, rfl, z3⟩, _⟩ := rp.own hi
    refine ⟨.ref l, e, sb q.ex ρ _ hw F σ H S _ rp (o.exOk rp) fun k kv H1 S1 q1 g1 h1 => ?_⟩
    cases k with
    | int k =>
      unfold Dat at h1
      subst h1
      obtain ⟨j, d, rfl, hdj, q1⟩ := q1
      have rp1 := rp.grow g1
      have z31 := Dats.mono g1.ss _ _ z3
      obtain ⟨y, hy, hz⟩ := z31.get hdj
      have hj : j < us.length := (List.getElem?_eq_some_iff.mp hy).1
      refine ⟨l, us, (j : Int), y, rfl, rfl, .of (g1.hh.lst z2), atI_nat hy, ?_⟩
      refine s q.ex ρ _ q1 F σ H1 S1 _ rp1 (o.exOk rp1) fun e' v' H2 S2 q2 g2 h2 => ?_
      refine si d e' _ q2 H2 S2 y v' _ (rp1.grow g2).sh (Dat.mono g2.ss _ _ hz) h2 fun z' y' q3 h3 => ?_
      exact ⟨l, us, (j : Int), j, rfl, rfl, g2.hh.lst (g1.hh.lst z2), ixN_at hj, o.nx _ _ _ S2 q3 ((rp1.grow g2).put hi e ⟨_, rfl, (Dats.mono g2.ss _ _ z31).set j h3⟩)⟩
    | _ => exact q1.elim
  · exact hw.elim
/-- sep.join(texts) -/
def gJoin (a : Str) : D → (D → Prop) → Prop
  | .lst ds, Q => ∃ ys : List Str, ds = ys.map D.str ∧ (ys.map (·.length)).sum + ys.length * a.length ≤ 16777216 ∧ Q (.str (Txt.join a ys))
  | _, _ => False
def wJoin (wa wb : WE) : WE := fun x ρ Q => wa x ρ fun d => match d with
  | .str a => wb x ρ fun e => gJoin a e Q
  | _ => False
theorem ed_join {a : Expr} {wa : WE} {apos : Pos} (ha : BD X E a wa) (hb : BD X E b wb) (hs : starEach [b] X.env = [(false, eval b X.env)] := by rfl) (hbase : attributeBase a "join" X.env (eval a X.env) = eval a X.env := by rfl) (hline : (apos.endLine == pos.line) = true := by rfl) :
    ED X E (.Call (.Attribute a "join" apos) [b] [] pos) (wJoin wa wb) := by
  obtain ⟨ta, pa, sa⟩ := ha.ex
  obtain ⟨tb, pb, sb⟩ := hb.ex
  refine ⟨_, pe_join pa pb hs hbase hline, fun x ρ Q hw F σ H S Q' rp ex k => ?_⟩
  refine sa x ρ _ hw F σ H S _ rp ex fun d u H1 S1 q1 g1 h1 => ?_
  cases d with
  | str a =>
    cases h1.s
    refine ⟨⟨a, rfl⟩, sb x ρ _ q1 F σ H1 S1 _ (rp.grow g1) (ex.grow g1) fun e v H2 S2 q2 g2 h2 => ?_⟩
    cases e with
    | lst ds =>
      obtain ⟨ys, rfl, hz, q2⟩ := q2
      obtain ⟨l, vs, rfl, r, z⟩ := h2
      have := z.ofStrs
      subst this
      exact ⟨a, l, ys, rfl, rfl, .inl (.of r), hz, k _ _ H2 S2 q2 (g1.trans g2) .s⟩
    | _ => exact q2.elim
  | _ => exact q1.elim
end
/-- a promise that is never asked -/
theorem fn_no {P : Program} {w : World} {K : PySem.W.Frag} {mg : Str → Option Value} {base : Heap} {k : Nat} {f : Addr} {fd : FuncData} {ps : List Str} {sp : Spec} (h : ∀ ds x R, ¬ sp ds x R) :
    FnOk P w K mg base (L2N.CX P w) k f fd ps (spOf mg sp) :=
  ⟨fun _ _ _ _ ⟨_, _, _, _, _, _, hs, _⟩ => (h _ _ _ hs).elim, fun _ _ _ _ _ _ _ _ _ _ _ _ _ ⟨_, _, _, _, _, _, hs, _⟩ => (h _ _ _ hs).elim⟩
/-! a module's own texts and numbers -/
section
variable {X : Cx} {E : XK} {x : Str} {p : Pos}
theorem ed_globS {s : Str} (hg : Gl X x) (h : ∃ t, X.mg x = some (.str s t)) (hd : (x == ("__debug__" : Str)) = false := by decide) : ED X E (.Name x p) (wC (.str s)) := by
  obtain ⟨t, h⟩ := h
  exact ed_glob (v := .str s) hg h ⟨t, rfl⟩ (fun _ => Dat.s) hd
theorem ed_globI {s : Int} (hg : Gl X x) (h : ∃ t, X.mg x = some (.int s t)) (hd : (x == ("__debug__" : Str)) = false := by decide) : ED X E (.Name x p) (wC (.int s)) := by
  obtain ⟨t, h⟩ := h
  exact ed_glob (v := .int s) hg h ⟨t, rfl⟩ (fun _ => Dat.i) hd
end
/-! sum, any, all over a list -/
section
variable {X : Cx}
def gSum : List D → (D → Prop) → Prop
  | [.lst ds], Q => ∃ ns : List Int, ds = ns.map D.int ∧ Q (.int ns.sum)
  | _, _ => False
theorem cSum (hc : X.calm = true) : CalD X (.builtin "sum") gSum := by
  refine ⟨_, cr_sum hc, fun ds Q h H S vs Q' sh hd k => ?_⟩
  unfold gSum at h
  split at h
  · obtain ⟨ns, rfl, q⟩ := h
    obtain ⟨v, rfl, hz⟩ := hd.one
    obtain ⟨a, ws, rfl, r, z⟩ := hz
    have := z.ofInts
    subst this
    exact ⟨a, ns, rfl, .of r, k _ _ H S q (.refl sh) .i⟩
  · exact h.elim
def gAny : List D → (D → Prop) → Prop
  | [.lst ds], Q => ∃ bs : List Bool, ds = bs.map D.bl ∧ Q (.bl (bs.any id))
  | _, _ => False
theorem cAny (hc : X.calm = true) : CalD X (.builtin "any") gAny := by
  refine ⟨_, cr_any hc, fun ds Q h H S vs Q' sh hd k => ?_⟩
  unfold gAny at h
  split at h
  · obtain ⟨ns, rfl, q⟩ := h
    obtain ⟨v, rfl, hz⟩ := hd.one
    obtain ⟨a, ws, rfl, r, z⟩ := hz
    have := z.ofBls
    subst this
    exact ⟨a, ns, rfl, .of r, k _ _ H S q (.refl sh) .b⟩
  · exact h.elim
def gAll : List D → (D → Prop) → Prop
  | [.lst ds], Q => ∃ bs : List Bool, ds = bs.map D.bl ∧ Q (.bl (bs.all id))
  | _, _ => False
theorem cAll (hc : X.calm = true) : CalD X (.builtin "all") gAll := by
  refine ⟨_, cr_all hc, fun ds Q h H S vs Q' sh hd k => ?_⟩
  unfold gAll at h
  split at h
  · obtain ⟨ns, rfl, q⟩ := h
    obtain ⟨v, rfl, hz⟩ := hd.one
    obtain ⟨a, ws, rfl, r, z⟩ := hz
    have := z.ofBls
    subst this
    exact ⟨a, ns, rfl, .of r, k _ _ H S q (.refl sh) .b⟩
  · exact h.elim
end
end NL

/-! Expressions with an effect: a def that changes a slot's own list and tells a value. -/
namespace NL
open PySem PySem.Spec L2
open PyProof.Rows hiding St
variable [KC]
abbrev WM := XS → Ev → (D → Ev → Prop) → Prop
structure EM (X : Cx) (E : XK) (e : Expr) (w : WM) : Prop where
  ex : ∃ t : TE, PE X e t ∧ ∀ (x : XS) (ρ : Ev) (Q : D → Ev → Prop), w x ρ Q → ∀ (F : Fr) (σ : L2.St) (H S : Hp) (Q' : VK), Rep F ρ σ H S → (∀ ρ H S, Rep F ρ σ H S → ExOk X.mg E x H S) →
    (∀ d v ρ' H' S', Q d ρ' → Rep F ρ' σ H' S' → Same S S' → Dat S' d v → Q' v H') → t σ H Q'
section
variable {X : Cx} {E : XK} {e a b : Expr} {es : List Expr} {pos : Pos} {w wa wb : WE} {wm : WM} {wl : WL} {ws : WS} {k : Nat} {f : Addr} {fd : FuncData} {ps : List Str} {sp : SpecM} {x y : Str} {p p1 mpos : Pos}
def wmCall (i : Nat) (sp : SpecM) (wl : WL) : WM := fun x ρ Q => match ρ[i]? with
  | some (.own m (.lst xs)) => wl x ρ fun ds => AskM sp xs ds (fun ys d => Q d (ρ.set i (.own m (.lst ys)))) ⟨⟩
  | _ => False
theorem em_call (i : Nat) (G : FnOk X.prog X.w X.K X.mg X.base (L2N.CX X.prog X.w) k f fd ps (spOfM sp)) (hr : Room k X.A) (xk : XOk X E) (hg : Gl X x) (hm : X.mg x = some (.ref f)) (hk : PySem.W.keepIn X.K (.ref f) = true) (hb : Binds X.K fd ps [])
    (ha : AD X E es wl) (hN : X.N[i]? = some y := by rfl) (hv : Vis X.env.scope y := by first | exact Or.inl rfl | exact Or.inr (Or.inl rfl) | exact Or.inr (Or.inr rfl)) (hd : (y == ("__debug__" : Str)) = false := by decide) (hcd : (y == ("__classdict__" : Str)) = false := by decide)
    (hdb : (x == ("__debug__" : Str)) = false := by decide) (he : starEach (.Name y p1 :: es) X.env = (false, eval (.Name y p1) X.env) :: starEach es X.env := by rfl) (hpl : (backTo mpos (starEach es X.env)).any (·.1) = false := by rfl) :
    EM X E (.Call (.Name x p) (.Name y p1 :: es) [] mpos) (wmCall i sp wl) := by
  obtain ⟨t, pt, s⟩ := ha.ex
  have px : Passes (L2N.CX X.prog X.w) X E := xk.pass
  refine ⟨_, pe_call G hr hg hm hk hb .nil px (pa_cons (pe_var hN hv hd hcd) pt he) hdb he hpl, fun x ρ Q hw F σ H S Q' rp ex k => ?_⟩
  unfold wmCall at hw
  split at hw
  · rename_i m xs hi
    obtain ⟨l, u, e, h1, h2, ⟨us, rfl, h3⟩, _⟩ := rp.own hi
    refine ⟨.ref l, e, ?_⟩
    refine s x ρ _ hw F σ H S _ rp (ex _ _ _ rp) fun ds vs H1 S1 q1 g1 hd => ?_
    have rp1 := rp.grow g1
    refine ⟨l, us, vs, xs, ds, S1, _, by rw [List.append_nil], ⟨g1.sh, rp1.fg.tb⟩, by rw [g1.nw l (by rw [h2]; intro z; cases z)]; exact h1, g1.hh.lst h2, Dats.mono g1.ss _ _ h3, hd, q1, fun ys d v H2 S2 ws q2 g2 z1 z2 z3 => ?_⟩
    exact k d v _ H2 S2 q2 (rp1.putM hi e g2 z1 ⟨ws, rfl, z2⟩) (g1.ss.trans g2.ss) z3
  · exact hw.elim
def wmOpL (g : D → D → (D → Prop) → Prop) (wm : WM) (wb : WE) : WM := fun x ρ Q => wm x ρ fun d ρ1 => wb x ρ1 fun e => g d e fun z => Q z ρ1
theorem em_opL {op : Operator} {g : D → D → (D → Prop) → Prop} (ho : OpD X (binaryOp op) g) (ha : EM X E a wm) (hb : ED X E b wb) : EM X E (.BinOp a op b pos) (wmOpL g wm wb) := by
  obtain ⟨r, o, so⟩ := ho.ex
  obtain ⟨ta, pa, sa⟩ := ha.ex
  obtain ⟨tb, pb, sb⟩ := hb.ex
  refine ⟨_, pe_op o pa pb, fun x ρ Q hw F σ H S Q' rp ex k => ?_⟩
  refine sa x ρ _ hw F σ H S _ rp ex fun d u ρ1 H1 S1 q1 r1 e1 h1 => ?_
  refine sb x ρ1 _ q1 F σ H1 S1 _ r1 (ex _ _ _ r1) fun e v H2 S2 q2 g2 h2 => ?_
  refine so d e _ q2 H2 S2 u v Q' g2.sh (BDat.of g2.sh (Dat.mono g2.ss _ _ h1)) (BDat.of g2.sh h2) fun z y H3 S3 q3 g3 h3 => ?_
  exact k z y ρ1 H3 S3 q3 ((r1.grow g2).grow g3) ((e1.trans g2.ss).trans g3.ss) h3
def wmOpR (g : D → D → (D → Prop) → Prop) (wa : WE) (wm : WM) : WM := fun x ρ Q => wa x ρ fun d => wm x ρ fun e ρ1 => g d e fun z => Q z ρ1
theorem em_opR {op : Operator} {g : D → D → (D → Prop) → Prop} (ho : OpD X (binaryOp op) g) (ha : ED X E a wa) (hb : EM X E b wm) : EM X E (.BinOp a op b pos) (wmOpR g wa wm) := by
  obtain ⟨r, o, so⟩ := ho.ex
  obtain ⟨ta, pa, sa⟩ := ha.ex
  obtain ⟨tb, pb, sb⟩ := hb.ex
  refine ⟨_, pe_op o pa pb, fun x ρ Q hw F σ H S Q' rp ex k => ?_⟩
  refine sa x ρ _ hw F σ H S _ rp (ex _ _ _ rp) fun d u H1 S1 q1 g1 h1 => ?_
  refine sb x ρ _ q1 F σ H1 S1 _ (rp.grow g1) ex fun e v ρ1 H2 S2 q2 r2 e2 h2 => ?_
  refine so d e _ q2 H2 S2 u v Q' r2.sh (BDat.of r2.sh (Dat.mono e2 _ _ h1)) (BDat.of r2.sh h2) fun z y H3 S3 q3 g3 h3 => ?_
  exact k z y ρ1 H3 S3 q3 (r2.grow g3) ((g1.ss.trans e2).trans g3.ss) h3
def wmIxR (wa : WE) (wm : WM) : WM := fun x ρ Q => wa x ρ fun d => wm x ρ fun e ρ1 => match d, e with
  | .str z, .int i => z.length ≤ sizeLine ∧ ∃ c, atI z.cps.toList i = some c ∧ Q (.str ⟨#[c]⟩) ρ1
  | .lst xs, .int i => ∃ d, atI xs i = some d ∧ Q d ρ1
  | _, _ => False
theorem em_ixR (ha : ED X E a wa) (hb : EM X E b wm) (hs : PlainIx b := by exact fun _ _ => rfl) : EM X E (.Subscript a b pos) (wmIxR wa wm) := by
  obtain ⟨ta, pa, sa⟩ := ha.ex
  obtain ⟨tb, pb, sb⟩ := hb.ex
  refine ⟨_, pe_ix (ix_str.or ix_list) pa pb hs, fun x ρ Q hw F σ H S Q' rp ex k => ?_⟩
  refine sa x ρ _ hw F σ H S _ rp (ex _ _ _ rp) fun d u H1 S1 q1 g1 h1 => ?_
  refine sb x ρ _ q1 F σ H1 S1 _ (rp.grow g1) ex fun e v ρ1 H2 S2 q2 r2 e2 h2 => ?_
  have h1 := Dat.mono e2 _ _ h1
  split at q2
  · obtain ⟨hz, c, hc, q⟩ := q2
    unfold Dat at h1 h2
    subst h1 h2
    exact .inl ⟨_, _, c, rfl, rfl, hz, hc, k _ _ ρ1 H2 S2 q r2 (g1.ss.trans e2) .s⟩
  · obtain ⟨d, hd, q⟩ := q2
    unfold Dat at h1 h2
    subst h2
    obtain ⟨p, vs, rfl, r, z⟩ := h1
    obtain ⟨y, hy, hz⟩ := atI_dats z hd
    exact .inr ⟨p, vs, _, y, rfl, rfl, .of (r2.sh _ _ r), hy, k _ _ ρ1 H2 S2 q r2 (g1.ss.trans e2) hz⟩
  · exact q2.elim
def wmTup2 (wa : WE) (wm : WM) : WM := fun x ρ Q => wa x ρ fun d => wm x ρ fun e ρ1 => Q (.tup [d, e]) ρ1
theorem em_tup2 {k1} (ha : ED X E a wa) (hb : EM X E b wm) (he : starEach (a :: [b]) X.env = (false, eval a X.env) :: starEach [b] X.env := by rfl) (he2 : starEach (b :: []) X.env = (false, eval b X.env) :: starEach [] X.env := by rfl) :
    EM X E (.Tuple [a, b] k1 pos) (wmTup2 wa wm) := by
  obtain ⟨ta, pa, sa⟩ := ha.ex
  obtain ⟨tb, pb, sb⟩ := hb.ex
  refine ⟨_, pe_tup (pa_cons pa (pa_cons pb pa_nil he2) he), fun x ρ Q hw F σ H S Q' rp ex k => ?_⟩
  refine sa x ρ _ hw F σ H S _ rp (ex _ _ _ rp) fun d u H1 S1 q1 g1 h1 => ?_
  refine sb x ρ _ q1 F σ H1 S1 _ (rp.grow g1) ex fun e v ρ1 H2 S2 q2 r2 e2 h2 => ⟨(by decide : 2 ≤ 16777216), fun p hp => ?_⟩
  obtain ⟨g, y⟩ := lay_tup r2.sh hp (Dats.cons (Dat.mono e2 _ _ h1) (.one h2))
  exact k _ _ ρ1 _ _ q2 (r2.grow g) ((g1.ss.trans e2).trans g.ss) y
def wsSetM (i : Nat) (wm : WM) : WS := fun q ρ => wm q.ex ρ fun d ρ1 => q.nx (ρ1.set i (.fz d))
theorem sd_setM (i : Nat) (hN : X.N.Nodup) (he : EM X E e wm) (hi : X.N[i]? = some x := by rfl) (hx : Loc X.env.scope x := by first | exact Or.inl rfl | exact Or.inr rfl) (hs : swapsWith e (some (.Name x p)) pos.line X.env = pure false := by rfl)
    (hf : X.fn x = true ∨ X.env.scope.names.lookup x = some .local := by first | exact .inl rfl | exact .inr rfl) : SD X E (.Assign [.Name x p] e pos) (wsSetM i wm) := by
  obtain ⟨t, pe, s⟩ := he.ex
  refine ⟨_, ps_set hN hi hx pe hs hf, fun q ρ hw F σ H S D rp o => ?_⟩
  exact s q.ex ρ _ hw F σ H S _ rp (fun _ _ _ r => o.exOk r) fun d v ρ1 H1 S1 q1 r1 e1 h1 => o.nx _ _ H1 S1 q1 (r1.set h1)
/-- l.append(e), l a slot's own list, e with an effect on another one -/
def wsAppM (i : Nat) (wm : WM) : WS := fun q ρ => match ρ[i]? with
  | some (.own _ (.lst _)) => wm q.ex ρ fun d ρ1 => match ρ1[i]? with
    | some (.own m (.lst xs)) => xs.length < sizeLine ∧ q.nx (ρ1.set i (.own m (.lst (xs ++ [d]))))
    | _ => False
  | _ => False
theorem sd_appM (i : Nat) {apos : Pos} (ha : EM X E e wm)
    (hN : X.N[i]? = some x := by rfl) (hv : Vis X.env.scope x := by first | exact Or.inl rfl | exact Or.inr (Or.inl rfl) | exact Or.inr (Or.inr rfl)) (hd : (x == ("__debug__" : Str)) = false := by decide) (hcd : (x == ("__classdict__" : Str)) = false := by decide)
    (hbase : attributeBase (.Name x p) "append" X.env (eval (.Name x p) X.env) = eval (.Name x p) X.env := by rfl)
    (hfew : ((backTo mpos (starEach (e :: []) X.env)).all (fun x => !x.1) && (backToKw mpos (keywordEach [] X.env)).all (fun x => x.1.isSome)
      && decide ((e :: ([] : List Expr)).length + ([] : List Keyword).length + (if ([] : List Keyword).isEmpty then 0 else 1) < 30)) = true := by rfl)
    (hline : (apos.endLine == mpos.line) = true := by rfl) (hst : starEach (e :: []) X.env = (false, eval e X.env) :: starEach [] X.env := by rfl) (hplain : (backTo mpos (starEach ([] : List Expr) X.env)).any (·.1) = false := by rfl)
    (hs : swapsWith (.Call (.Attribute (.Name x p) "append" apos) [e] [] mpos) none pos.line X.env = pure false := by rfl) :
    SD X E (.Expr (.Call (.Attribute (.Name x p) "append" apos) [e] [] mpos) pos) (wsAppM i wm) := by
  obtain ⟨t, pt, s⟩ := ha.ex
  refine ⟨_, ps_expr (pe_bm PySem.F.plainAttrs_list PySem.F.slot_list_append PySem.F.type_list_append mt_append (pe_var hN hv hd hcd) (pa_cons pt pa_nil hst) hbase hfew hline hst hplain) hs, fun q ρ hw F σ H S D rp o => ?_⟩
  unfold wsAppM at hw
  split at hw
  case h_2 => exact hw.elim
  rename_i m0 xs0 hi0
  obtain ⟨l, u, e, h1, h2, ⟨us, rfl, h3⟩, _⟩ := rp.own hi0
  refine ⟨.ref l, e, .inl ⟨rfl, _, .of h2⟩, ?_⟩
  refine s q.ex ρ _ hw F σ H S _ rp (fun _ _ _ r => o.exOk r) fun d v ρ1 H1 S1 q1 r1 e1 hd1 => ?_
  split at q1
  · rename_i m xs hi
    obtain ⟨l', u', e', z1, z2, ⟨us', rfl, z3⟩, _⟩ := r1.own hi
    have : l' = l := by
      rw [e] at e'
      cases e'
      rfl
    subst this
    exact ⟨l', us', v, rfl, rfl, z2, by rw [z3.len]; exact q1.1, o.nx _ _ _ S1 q1.2 (r1.put (o' := .lst (us' ++ [v])) hi e' ⟨_, rfl, z3.app (.one hd1)⟩)⟩
  · exact q1.elim
/-- for x in range(e), e with an effect -/
def wForM (wm : WM) (g : WG) (wb : WS) : WS := fun q ρ => wm q.ex ρ fun d ρ1 => match d with
  | .int n => smallI n ∧ loopL g wb q (rngD 0 1 n.toNat) ρ1
  | _ => False
theorem sd_forM {tg : Expr} {is : List Nat} {g : WG} {body : List Stmt} (hg0 : Gl X "range") (hm0 : X.mg "range" = none) (xk : XOk X E) (hc : X.calm = true) (ha : EM X E a wm) (hg : GD X tg is g) (hb : SDs X E body ws)
    (hs1 : starEach [a] X.env = [(false, eval a X.env)] := by rfl) (he : starEach (a :: []) X.env = (false, eval a X.env) :: starEach [] X.env := by rfl)
    (hs : ∀ x, foldedSetIterable (.Call (.Name "range" p) [a] [] mpos) X.env x = pure x := by intro _; rfl) :
    SD X E (.For tg (.Call (.Name "range" p) [a] [] mpos) body [] pos) (wForM wm g ws) := by
  obtain ⟨ti, pti, si⟩ := ha.ex
  obtain ⟨tg, pg, sg⟩ := hg.ex
  obtain ⟨tb, pb, sb⟩ := hb.ex
  refine ⟨_, ps_for xk.own hc (pi_range1 hg0 hm0 (pa_cons pti pa_nil he) hs1) pg pb hs, fun q ρ0 hw F σ H S D rp o => ?_⟩
  refine si q.ex ρ0 _ hw F σ H S _ rp (fun _ _ _ r => o.exOk r) fun d v ρ H1 S1 q1 rp1 e1 h1 => ?_
  cases d with
  | int n =>
    unfold Dat at h1
    subst h1
    obtain ⟨⟨n1, n2⟩, q1⟩ := q1
    refine ⟨n, rfl, n1, n2, ?_⟩
    have hJ : ItOk (Itr 0 n.toNat) S1 (rngD 0 1 n.toNat) := it_rng
    generalize rngD 0 1 n.toNat = ds at q1 hJ
    have ss1 := rp1.fg.ss
    have nw1 := rp1.fg.nw
    let W : Nat → Nat → L2.St → Hp → Prop := fun i m σ H => m = ds.length - i ∧ i ≤ ds.length ∧ ∃ ρ S, Rep { F with S0 := S1 } ρ σ H S ∧ loopL g ws q (ds.drop i) ρ
    refine ⟨W, ⟨ds.length, by simp, Nat.zero_le _, ρ, S1, rep_to rp1, q1⟩, ?_⟩
    rintro i m σ2 H2 ⟨rfl, hi, ρ2, S2, r2, hl⟩
    rcases Nat.lt_or_ge i ds.length with hlt | hge
    · obtain ⟨d, hdi⟩ : ∃ d, ds[i]? = some d := ⟨_, List.getElem?_eq_getElem hlt⟩
      obtain ⟨go, yl⟩ := (hJ i H2 S2 r2.fg.ss r2.fg.sh).1 d hdi
      have hdrop : ds.drop i = d :: ds.drop (i + 1) := by
        rw [List.drop_eq_getElem_cons hlt]
        congr 1
        rw [List.getElem?_eq_getElem hlt] at hdi
        exact Option.some.inj hdi
      rw [hdrop] at hl
      refine .inr ⟨go, W (i + 1) (ds.length - (i + 1)), fun σ' H' h => ⟨_, by omega, h⟩, fun x H' y => ?_⟩
      obtain ⟨S', g', dx⟩ := yl x H' y
      refine sg d ρ2 _ hl { F with S0 := S1 } σ2 H' S' x _ (r2.grow g') dx fun ρ3 σ3 h3 r3 _ => ?_
      refine sb _ ρ3 h3 { F with S0 := S1 } σ3 H' S' _ r3 ⟨fun ρ4 σ4 H4 S4 q4 r4 => ⟨rfl, hlt, ρ4, S4, r4, q4⟩, fun r ρ4 v σ4 H4 S4 q4 r4 p4 => o.rt r ρ4 v σ4 H4 S4 q4 (rep_in r4 ss1 nw1) p4,
        fun ρ4 σ4 H4 S4 q4 r4 => o.nx ρ4 σ4 H4 S4 q4 (rep_in r4 ss1 nw1), fun ρ4 σ4 H4 S4 q4 r4 => ⟨rfl, hlt, ρ4, S4, r4, q4⟩, fun n C H4 S4 h1 h2 h3 => o.ex n C H4 S4 h1 h2 (fg_in h3 ss1 nw1)⟩
    · have e : i = ds.length := by omega
      subst e
      rw [List.drop_length] at hl
      exact .inl ⟨(hJ _ H2 S2 r2.fg.ss r2.fg.sh).2 (Nat.le_refl _), o.nx ρ2 σ2 H2 S2 hl (rep_in r2 ss1 nw1)⟩
  | _ => exact q1.elim
end
end NL

namespace NL
open PySem PySem.Spec L2
open PyProof.Rows hiding St

/-! ### the law's own promise -/
def SP_law : Spec := fun ds _ R => ∃ ns, ds = [.scr ns] ∧ ns.length ≤ 63 ∧ R (.val (.bl true))
theorem len_law (ds : List D) (x : XS) (R : Rt → Prop) (h : SP_law ds x R) : ds.length = ["_law_script"].length := by
  obtain ⟨ns, rfl, _⟩ := h
  rfl
def spLaw (K : PySem.W.Frag) : Sp := fun vs H Q _ => ∃ (a : Addr) (ns : List Int), vs = [.ref a] ∧ SqL K H a (ns.map V.int) ∧ ns.length ≤ 63 ∧ ∀ H', Q (.bl true) H'
theorem law_in {K : PySem.W.Frag} {H : Hp} {a : Addr} {ns : List Int} (hl : ns.length ≤ 63) (hS : SqL K H a (ns.map V.int)) : spLaw K [.ref a] H (fun v _ => v = .bl true) fun _ _ _ => False :=
  ⟨a, ns, rfl, hS, hl, fun _ => rfl⟩
theorem law_cx {P : Program} {w : World} {H : Hp} {s s' : Shared} {e : Value} (h : L2N.CX P w [] H s (fun _ _ _ => False) e s') : False := by
  obtain ⟨_, _, _, _, _, _, _, _, _, _, _, _, z⟩ := h
  exact z
theorem law_F {P : Program} {w : World} {K : PySem.W.Frag} {mg : Str → Option Value} {fl : Addr} {k : Nat} {x : Str}
    {ca : Str → Addr}
    (h : ∃ fd : FuncData, (∀ (s : Shared) (v : Value), BindsTo s fd ⟨[v], []⟩ [(x, v)]) ∧ ∀ base : Heap, K.In base → base.Ns mainGlobals mg → FnOk P w K mg base (L2N.CX P w) k fl fd [x] (@spOf ⟨K, [], ca⟩ mg SP_law)) :
    ∃ fd : FuncData, (∀ (s : Shared) (v : Value), BindsTo s fd ⟨[v], []⟩ [(x, v)]) ∧ ∀ base : Heap, K.In base → base.Ns mainGlobals mg → FnOk P w K mg base (L2N.CX P w) k fl fd [x] (spLaw K) := by
  obtain ⟨fd, h1, h2⟩ := h
  refine ⟨fd, h1, fun base b1 b2 => (h2 base b1 b2).imp fun vs H Q E h => ?_⟩
  obtain ⟨a, ns, rfl, hS, hl, q⟩ := h
  letI : KC := ⟨K, [], ca⟩
  refine ⟨[.scr ns], H, fun _ => False, fun r => r = .val (.bl true), ⟨.refl _, (fun _ h => by cases h), (fun _ h => by cases h)⟩, .one ?_, ⟨ns, rfl, hl, rfl⟩, fun r v H' S' e _ h => ?_, fun _ _ _ _ z => z.elim⟩
  · unfold Dat
    exact ⟨a, rfl, hS⟩
  · subst e
    have h' : Dat S' (.bl true) v := h
    unfold Dat at h'
    subst h'
    exact q H'
end NL

namespace NL
open PySem PySem.Spec L2
open PyProof.Rows hiding St

/-! ### typed data -/
abbrev Pc := Str × Int
def dP (p : Pc) : D := .tup [.str p.1, .int p.2]
def dC (c : List Pc) : D := .lst (c.map dP)
def dI (c : List Int) : D := .lst (c.map D.int)
def rng (lo c : Int) (n : Nat) : List Int := (List.range n).map fun (i : Nat) => lo + (i : Int) * c
theorem rngD_eq {lo c : Int} {n : Nat} : rngD lo c n = (rng lo c n).map D.int := by
  unfold rngD rng
  rw [List.map_map]
  rfl
theorem mem_rng {lo c k : Int} {n : Nat} (h : k ∈ rng lo c n) : ∃ i : Nat, i < n ∧ k = lo + (i : Int) * c := by
  unfold rng at h
  obtain ⟨i, hi, e⟩ := List.mem_map.mp h
  exact ⟨i, List.mem_range.mp hi, e.symm⟩
theorem rng_len {lo c : Int} {n : Nat} : (rng lo c n).length = n := by simp [rng]
theorem rng0 {lo c : Int} : rng lo c 0 = [] := rfl
theorem rng_succ {lo c : Int} {n : Nat} : rng lo c (n + 1) = lo :: rng (lo + c) c n := by
  unfold rng
  rw [List.range_succ_eq_map, List.map_cons, List.map_map]
  congr 1
  · simp
  · apply List.map_congr_left
    intro i _
    simp only [Function.comp, Int.natCast_succ]
    rw [Int.add_mul]
    omega
theorem kit1 : kitB "list" "list" = some true := by decide +kernel
theorem kit2 : kitB "tuple" "tuple" = some true := by decide +kernel
theorem kit3 : kitB "str" "str" = some true := by decide +kernel
theorem kit4 : kitB "int" "int" = some true := by decide +kernel
theorem kit5 : kitB "int" "bool" = some false := by decide +kernel
theorem kit6 : kitB "bool" "bool" = some true := by decide +kernel
theorem kit7 : kitB "bool" "int" = some true := by decide +kernel
theorem kit8 : kitB "str" "list" = some false := by decide +kernel
theorem kit9 : kitB "NoneType" "list" = some false := by decide +kernel
theorem kit10 : kitB "NoneType" "int" = some false := by decide +kernel
theorem kit11 : kitB "NoneType" "str" = some false := by decide +kernel
theorem kit12 : kitB "NoneType" "tuple" = some false := by decide +kernel
theorem kit13 : kitB "int" "str" = some false := by decide +kernel
theorem kit14 : kitB "int" "list" = some false := by decide +kernel
theorem kit15 : kitB "int" "tuple" = some false := by decide +kernel
theorem kit16 : kitB "bool" "str" = some false := by decide +kernel
theorem kit17 : kitB "bool" "list" = some false := by decide +kernel
theorem kit18 : kitB "bool" "tuple" = some false := by decide +kernel
theorem kit19 : kitB "str" "int" = some false := by decide +kernel
theorem kit20 : kitB "str" "bool" = some false := by decide +kernel
theorem kit21 : kitB "str" "tuple" = some false := by decide +kernel
theorem kit22 : kitB "list" "str" = some false := by decide +kernel
theorem kit23 : kitB "list" "int" = some false := by decide +kernel
theorem kit24 : kitB "list" "bool" = some false := by decide +kernel
theorem kit25 : kitB "list" "tuple" = some false := by decide +kernel
theorem kit26 : kitB "tuple" "str" = some false := by decide +kernel
theorem kit27 : kitB "tuple" "int" = some false := by decide +kernel
theorem kit28 : kitB "tuple" "bool" = some false := by decide +kernel
theorem kit29 : kitB "tuple" "list" = some false := by decide +kernel
theorem kit30 : kitB "NoneType" "bool" = some false := by decide +kernel
theorem kit31 : kitB "dict" "str" = some false := by decide +kernel
theorem kit32 : kitB "dict" "list" = some false := by decide +kernel
theorem kit33 : kitB "dict" "tuple" = some false := by decide +kernel
theorem kit34 : kitB "dict" "int" = some false := by decide +kernel
theorem kit35 : kitB "dict" "bool" = some false := by decide +kernel

theorem castN (n : Nat) : ((no_index (OfNat.ofNat n) : Nat) : Int) = OfNat.ofNat n := rfl
/-! ### places -/
theorem atI_in {α : Type} {xs : List α} {i : Int} (h0 : 0 ≤ i) (h : i < xs.length) : ∃ a, atI xs i = some a ∧ a ∈ xs := by
  have hi : i.toNat < xs.length := by omega
  refine ⟨xs[i.toNat], ?_, List.getElem_mem hi⟩
  have := atI_nat (List.getElem?_eq_getElem hi)
  rw [Int.toNat_of_nonneg h0] at this
  exact this
theorem atI_at {α : Type} {xs : List α} {i : Int} {j : Nat} (h : i = j) (hj : j < xs.length) : atI xs i = some xs[j] := by
  rw [h]
  exact atI_nat (List.getElem?_eq_getElem hj)
theorem atI_neg1 {α : Type} {xs : List α} : atI xs (-1) = xs.getLast? := by
  rcases List.eq_nil_or_concat xs with h | ⟨r, a, h⟩
  · rw [h]; rfl
  · rw [h]
    have := atI_last r a
    simpa using this
theorem atI_rev1 {α : Type} {xs : List α} : atI xs.reverse (-1) = xs.head? := by
  rw [atI_neg1, List.getLast?_reverse]

/-! ### texts by their signs -/
def tx (l : List Nat) : Str := ⟨l.toArray⟩
theorem tx_cps {l : List Nat} : (tx l).cps.toList = l := by simp [tx]
theorem tx_len {l : List Nat} : (tx l).length = l.length := by
  show l.toArray.size = _
  simp
theorem tx_app {a b : List Nat} : tx a ++ tx b = tx (a ++ b) := by
  show (⟨a.toArray ++ b.toArray⟩ : Str) = ⟨_⟩
  simp
theorem tx_of (s : Str) : s = tx s.cps.toList := by
  cases s
  simp [tx]
theorem tx_inj {a b : List Nat} : tx a = tx b ↔ a = b := by
  constructor
  · intro h
    rw [← tx_cps (l := a), h, tx_cps]
  · rintro rfl; rfl
theorem tx_one {c : Nat} : (⟨#[c]⟩ : Str) = tx [c] := rfl
theorem tx_nil : (⟨#[]⟩ : Str) = tx [] := rfl
theorem tx_cut {l : List Nat} {lo hi : Option Int} : cutS (tx l) lo hi = tx (cut l lo hi) := by
  unfold cutS cut
  rw [tx_cps, tx_len]
  rfl
theorem tx_signs {l : List Nat} : signs (tx l) = l.map fun c => .str (tx [c]) := by
  unfold signs
  rw [tx_cps]
  rfl
theorem tx_rep {n : Nat} {l : List Nat} : srep n (tx l) = tx (List.replicate n l).flatten := by
  unfold srep
  rw [tx_cps]
  rfl
theorem lit_empty : Str.ofString "" = tx [] := by decide +kernel
theorem az_cps : (Str.ofString "abcdefghijklmnopqrstuvwxyz").cps.toList = (List.range 26).map fun i => 97 + i := by decide +kernel
theorem abcz_cps : (Str.ofString "abcz").cps.toList = [97, 98, 99, 122] := by decide +kernel
theorem tx_ok {l : List Nat} (h : ∀ c ∈ l, 97 ≤ c ∧ c ≤ 122) : PyData.strOk (tx l) = true := by
  simp only [PyData.strOk, tx, List.all_toArray, List.all_eq_true]
  intro c hc
  have := h c hc
  simp
  omega
/-! ### products that are small -/
theorem log2_lt {i : Int} {n : Nat} (h : i.natAbs < 2 ^ (n + 1)) : i.natAbs.log2 ≤ n := by
  rcases Nat.eq_zero_or_pos i.natAbs with z | z
  · rw [z]; simp
  · have := (Nat.log2_lt (by omega)).mpr h
    omega
theorem mulWn {i j : Int} {a b : Nat} (h1 : i.natAbs < 2 ^ (a + 1)) (h2 : j.natAbs < 2 ^ (b + 1)) (h : a + b < 1000000) : CMulW i j := by
  have x := log2_lt h1
  have y := log2_lt h2
  show _ + _ < 1000000
  omega
theorem mulW {i j : Int} (h1 : i.natAbs < 2 ^ 201) (h2 : j.natAbs < 2 ^ 201) : CMulW i j := by
  have a := log2_lt h1
  have b := log2_lt h2
  show _ + _ < 1000000
  omega
theorem divW {i j : Int} (h0 : 0 < j) (h2 : j.natAbs < 2 ^ 201) : CDivW i j := ⟨h0, by have := log2_lt h2; omega⟩

theorem divW_eq {i j : Int} (h0 : 0 < j) (h2 : j < 1606938044258990275541962092341162602522202993782792835301376) : CDivW i j = True := by
  have e : (2 : Nat) ^ 201 = 3213876088517980551083924184682325205044405987565585670602752 := by decide
  exact eq_true (divW h0 (by omega))
theorem mulW_eq {i j : Int} (h0 : -1606938044258990275541962092341162602522202993782792835301376 < i) (h1 : i < 1606938044258990275541962092341162602522202993782792835301376) (h2 : -1606938044258990275541962092341162602522202993782792835301376 < j) (h3 : j < 1606938044258990275541962092341162602522202993782792835301376) : CMulW i j = True := by
  have e : (2 : Nat) ^ 201 = 3213876088517980551083924184682325205044405987565585670602752 := by decide
  exact eq_true (mulW (by omega) (by omega))
theorem divWs {i j : Int} (h0 : 0 < j) (h2 : j < 1000000000000) : CDivW i j := of_eq_true (divW_eq h0 (by omega))
/-! ### data that is told apart -/
def OkC (c : List Pc) : Prop := ∀ p ∈ c, PyData.strOk p.1 = true
theorem nb_dP {p : Pc} {n : Nat} (h : PyData.strOk p.1 = true) : nb (n + 2) (dP p) = true := by simp [dP, nb, h]
theorem nb_dC {c : List Pc} {n : Nat} (h : OkC c) : nb (n + 3) (dC c) = true := by
  simp only [dC, nb, List.all_map, List.all_eq_true]
  exact fun p hp => nb_dP (h p hp)
theorem dP_inj {p q : Pc} : dP p = dP q ↔ p = q := by
  constructor
  · intro h
    simp [dP] at h
    exact Prod.ext h.1 h.2
  · rintro rfl; rfl
theorem map_inj {α β : Type} {f : α → β} (hf : ∀ a b, f a = f b ↔ a = b) : ∀ {xs ys : List α}, xs.map f = ys.map f ↔ xs = ys
  | [], [] => by simp
  | [], _ :: _ => by simp
  | _ :: _, [] => by simp
  | x :: xs, y :: ys => by
    simp only [List.map_cons, List.cons.injEq, hf, map_inj hf]
theorem dC_inj {a b : List Pc} : dC a = dC b ↔ a = b := by
  simp only [dC, D.lst.injEq]
  exact map_inj fun _ _ => dP_inj
theorem deq_dec {a b : D} {p : Prop} [Decidable p] (h : a = b ↔ p) : deq a b = decide p := by
  unfold deq
  rw [Bool.eq_iff_iff]
  simp [h]
theorem deq_dC {a b : List Pc} : deq (dC a) (dC b) = decide (a = b) := deq_dec dC_inj
theorem map_snocI {xs : List Int} {y : Int} : List.map D.int xs ++ [D.int y] = List.map D.int (xs ++ [y]) := by simp
theorem deqC {a b : List Pc} : deq (.lst (a.map dP)) (.lst (b.map dP)) = decide (a = b) := deq_dC
theorem deq_self {d : D} : deq d d = true := by simp [deq]
theorem nbC {c : List Pc} (h : OkC c) : nb 20 (.lst (c.map dP)) = true := nb_dC (n := 17) h
theorem rep_map {α β : Type} {f : α → β} {n : Nat} {xs : List α} : (List.replicate n (xs.map f)).flatten = ((List.replicate n xs).flatten).map f := by
  induction n with
  | zero => rfl
  | succ n ih => simp only [List.replicate_succ, List.flatten_cons, ih, List.map_append]
theorem rep_len {α : Type} {n : Nat} {xs : List α} : (List.replicate n xs).flatten.length = n * xs.length := by
  induction n with
  | zero => simp
  | succ n ih => rw [List.replicate_succ, List.flatten_cons, List.length_append, ih, Nat.succ_mul]; omega
theorem rep_mem {α : Type} {n : Nat} {xs : List α} {a : α} (h : a ∈ (List.replicate n xs).flatten) : a ∈ xs := by
  obtain ⟨l, hl, ha⟩ := List.mem_flatten.mp h
  rw [List.mem_replicate] at hl
  rw [hl.2] at ha
  exact ha
theorem nls_dP : ∀ {c : List Pc}, nls (c.map dP) = true
  | [] => rfl
  | p :: c => by simp [nls, nl, dP, nls_dP]
/-- one letter -/
def isNail (s : Str) : Prop := ∃ ch, s = tx [ch] ∧ 97 ≤ ch ∧ ch ≤ 122
theorem isNail.ok {s : Str} (h : isNail s) : PyData.strOk s = true := by
  obtain ⟨ch, rfl, h1, h2⟩ := h
  simp [PyData.strOk, tx]
  omega
/-- a good piece: a nail, turns of at most so many -/
def Gd (b : Int) (p : Pc) : Prop := isNail p.1 ∧ -b ≤ p.2 ∧ p.2 ≤ b
def Gds (b : Int) (c : List Pc) : Prop := ∀ p ∈ c, Gd b p
theorem Gds.ok {b : Int} {c : List Pc} (h : Gds b c) : OkC c := fun p hp => (h p hp).1.ok
theorem Gds.nil {b : Int} : Gds b [] := fun _ h => by cases h
theorem Gds.app {b : Int} {c d : List Pc} (h : Gds b c) (g : Gds b d) : Gds b (c ++ d) := fun p hp => (List.mem_append.mp hp).elim (h p) (g p)
theorem Gds.sub {b : Int} {c d : List Pc} (h : Gds b c) (g : ∀ p ∈ d, p ∈ c) : Gds b d := fun p hp => h p (g p hp)
theorem Gds.mono {b b' : Int} {c : List Pc} (h : Gds b c) (g : b ≤ b') : Gds b' c := fun p hp => ⟨(h p hp).1, by have := (h p hp).2; omega, by have := (h p hp).2; omega⟩
theorem cut_mem {α : Type} {xs : List α} {l h : Option Int} {a : α} (m : a ∈ cut xs l h) : a ∈ xs := List.mem_of_mem_drop (List.mem_of_mem_take m)
theorem cut_len {α : Type} {xs : List α} {l h : Option Int} : (cut xs l h).length ≤ xs.length := by
  unfold cut
  rw [List.length_take, List.length_drop]
  omega
theorem cut_to {α : Type} {xs : List α} {n : Int} (h0 : 0 ≤ n) : cut xs none (some n) = xs.take n.toNat := by
  unfold cut
  rw [HT.sIx_none]
  have e : HT.sIx xs.length xs.length (some n) = min n.toNat xs.length := by
    have := HT.sIx_nat xs.length xs.length n.toNat
    rw [Int.toNat_of_nonneg h0] at this
    exact this
  rw [e, List.drop_zero, Nat.sub_zero]
  rcases Nat.le_total n.toNat xs.length with z | z
  · rw [Nat.min_eq_left z]
  · rw [Nat.min_eq_right z, List.take_of_length_le (Nat.le_refl _), List.take_of_length_le z]
theorem cut_from {α : Type} {xs : List α} {n : Int} (h0 : 0 ≤ n) : cut xs (some n) none = xs.drop n.toNat := by
  unfold cut
  rw [HT.sIx_none]
  have e : HT.sIx xs.length 0 (some n) = min n.toNat xs.length := by
    have := HT.sIx_nat xs.length 0 n.toNat
    rw [Int.toNat_of_nonneg h0] at this
    exact this
  rw [e]
  rcases Nat.le_total n.toNat xs.length with z | z
  · rw [Nat.min_eq_left z, List.take_of_length_le (by rw [List.length_drop]; omega)]
  · rw [Nat.min_eq_right z, List.drop_of_length_le (Nat.le_refl _), List.drop_of_length_le z]
    simp
theorem cut_last {α : Type} {xs : List α} {y : α} : cut (xs ++ [y]) (some (-1)) none = [y] := by
  unfold cut
  rw [HT.sIx_none]
  have e : HT.sIx (xs ++ [y]).length 0 (some (-1)) = xs.length := by
    show (if (-1 : Int) < 0 then ((-1 : Int) + ((xs ++ [y]).length : Int)).toNat else min (-1 : Int).toNat (xs ++ [y]).length) = _
    rw [if_pos (by decide), List.length_append]
    simp
    omega
  rw [e]
  simp
theorem cut_nil {α : Type} {lo hi : Option Int} : cut ([] : List α) lo hi = [] := by simp [cut]
theorem cut_fromTo {α : Type} {xs : List α} {m n : Int} (h0 : 0 ≤ m) (h1 : 0 ≤ n) : cut xs (some m) (some n) = (xs.take n.toNat).drop m.toNat := by
  unfold cut
  have e : HT.sIx xs.length 0 (some m) = min m.toNat xs.length := by
    have := HT.sIx_nat xs.length 0 m.toNat
    rw [Int.toNat_of_nonneg h0] at this
    exact this
  have e2 : HT.sIx xs.length xs.length (some n) = min n.toNat xs.length := by
    have := HT.sIx_nat xs.length xs.length n.toNat
    rw [Int.toNat_of_nonneg h1] at this
    exact this
  rw [e, e2, List.drop_take]
  apply List.ext_getElem?
  intro i
  rw [List.getElem?_take, List.getElem?_take, List.getElem?_drop, List.getElem?_drop]
  rcases Nat.le_total m.toNat xs.length with z | z
  · rw [Nat.min_eq_left z]
    rcases Nat.le_total n.toNat xs.length with z2 | z2
    · rw [Nat.min_eq_left z2]
    · rw [Nat.min_eq_right z2]
      split <;> split <;> first | rfl | omega | (rw [List.getElem?_eq_none (by omega)]) | (symm; rw [List.getElem?_eq_none (by omega)])
  · rw [Nat.min_eq_right z, List.getElem?_eq_none (by omega : xs.length ≤ xs.length + i), List.getElem?_eq_none (by omega : xs.length ≤ m.toNat + i)]
    split <;> split <;> rfl
/-- a comprehension that takes each item to one -/
theorem compL_map {α : Type} {g : WG} {we : WE} {ρ : Ev} {Q : List D → Prop} (f : α → D) (h : α → D) (he : ∀ a (Q' : D → Prop), Q' (h a) → g (f a) ρ fun ρ2 => we X0 ρ2 Q') : ∀ (xs : List α) (acc : List D), acc.length + xs.length ≤ sizeLine → Q (acc ++ xs.map h) → compL g wtYes we ρ Q (xs.map f) acc
  | [], acc, _, q => by simpa [compL] using q
  | a :: xs, acc, hl, q => by
    simp only [List.map_cons, compL, wtYes, Br_true]
    refine he a _ ⟨by simp at hl; omega, compL_map f h he xs (acc ++ [h a]) (by simp at hl ⊢; omega) (by simpa using q)⟩
theorem compL_map' {α : Type} {g : WG} {we : WE} {ρ : Ev} {Q : List D → Prop} (f : α → D) (h : α → D) : ∀ (xs : List α) (acc : List D), (∀ a ∈ xs, ∀ (Q' : D → Prop), Q' (h a) → g (f a) ρ fun ρ2 => we X0 ρ2 Q') → acc.length + xs.length ≤ sizeLine → Q (acc ++ xs.map h) → compL g wtYes we ρ Q (xs.map f) acc
  | [], acc, _, _, q => by simpa [compL] using q
  | a :: xs, acc, he, hl, q => by
    simp only [List.map_cons, compL, wtYes, Br_true]
    refine he a (by simp) _ ⟨by simp at hl; omega, compL_map' f h xs (acc ++ [h a]) (fun b hb => he b (by simp [hb])) (by simp at hl ⊢; omega) (by simpa using q)⟩
theorem compL_filter {α : Type} {g : WG} {wt : WT} {we : WE} {ρ : Ev} {Q : List D → Prop} (f : α → D) (h : α → D) (t : α → Bool) : ∀ (xs : List α) (acc : List D), (∀ a ∈ xs, ∀ (Q' : Bool → Ev → Prop), (∀ ρ2, (∀ (Q2 : D → Prop), Q2 (h a) → we X0 ρ2 Q2) → Q' (t a) ρ2) → g (f a) ρ fun ρ2 => wt X0 ρ2 fun b => Q' b ρ2) → acc.length + xs.length ≤ sizeLine → Q (acc ++ (xs.filter t).map h) → compL g wt we ρ Q (xs.map f) acc
  | [], acc, _, _, q => by simpa [compL] using q
  | a :: xs, acc, he, hl, q => by
    simp only [List.map_cons, compL]
    refine he a (by simp) (fun b ρ2 => Br b (we X0 ρ2 fun y => acc.length < sizeLine ∧ compL g wt we ρ Q (xs.map f) (acc ++ [y])) (compL g wt we ρ Q (xs.map f) acc) ⟨⟩ ⟨⟩) fun ρ2 hw => ?_
    have ih := fun acc => compL_filter (Q := Q) f h t xs acc (fun b hb => he b (by simp [hb]))
    cases ht : t a with
    | true =>
      rw [Br_true]
      refine hw _ ⟨by simp at hl; omega, ih _ (by simp at hl ⊢; omega) ?_⟩
      rw [List.filter_cons, if_pos ht] at q
      simpa using q
    | false =>
      rw [Br_false]
      refine ih _ (by simp at hl ⊢; omega) ?_
      rw [List.filter_cons, if_neg (by simp [ht])] at q
      exact q
/-- a loop, by a word over what is left and the slots -/
theorem loop_ind {α S : Type} {g : WG} {wb : WS} {q : DEnds} (f : α → D) (env : S → Ev) (P : List α → S → Prop) (hnil : ∀ s, P [] s → q.nx (env s))
    (hstep : ∀ a r s (L : Ev → Prop), P (a :: r) s → (∀ s', P r s' → L (env s')) → g (f a) (env s) fun ρ1 => wb ⟨L, q.rt, q.nx, L, q.ex⟩ ρ1) : ∀ (xs : List α) (s0 : S), P xs s0 → loopL g wb q (xs.map f) (env s0)
  | [], s, h => hnil s h
  | a :: r, s, h => hstep a r s _ h fun s' h' => loop_ind f env P hnil hstep r s' h'
/-- while, by a word over the slots and a measure -/
theorem while_ind {S : Type} {wt : WT} {wb : WS} {q : DEnds} (env : S → Ev) (P : Nat → S → Prop)
    (hstep : ∀ m s (L : Ev → Prop), P m s → (∀ m' s', m' < m → P m' s' → L (env s')) → wt q.ex (env s) fun b => Br b (wb { q with nx := L, ct := L, bk := q.nx } (env s)) (q.nx (env s)) ⟨⟩ ⟨⟩)
    (m0 : Nat) (s0 : S) (h0 : P m0 s0) : wWhile wt wb q (env s0) := by
  refine ⟨fun m ρ => ∃ s, ρ = env s ∧ P m s, ⟨m0, s0, rfl, h0⟩, ?_⟩
  rintro m ρ ⟨s, rfl, h⟩
  exact hstep m s (fun ρ' => ∃ m', m' < m ∧ ∃ s, ρ' = env s ∧ P m' s) h fun m' s' hm hp => ⟨m', hm, s', rfl, hp⟩
def lawSign (s : Str) (i : Int) : Str := tx [(atI s.cps.toList i).getD 97]
theorem lawSign_at {s : Str} {i : Int} (h0 : 0 ≤ i) (h1 : i < s.cps.toList.length) (hs : ∀ c ∈ s.cps.toList, 97 ≤ c ∧ c ≤ 122) : ∃ c, atI s.cps.toList i = some c ∧ tx [c] = lawSign s i ∧ isNail (lawSign s i) := by
  obtain ⟨c, e, m⟩ := atI_in h0 h1
  refine ⟨c, e, ?_, ?_⟩
  · unfold lawSign; rw [e]; rfl
  · refine ⟨c, ?_, hs c m⟩
    unfold lawSign; rw [e]; rfl
theorem abcz_ok : ∀ c ∈ ("abcz" : Str).cps.toList, 97 ≤ c ∧ c ≤ 122 := by decide +kernel
theorem abcz_len : ("abcz" : Str).cps.toList.length = 4 := by decide +kernel
theorem az_ok : ∀ c ∈ ("abcdefghijklmnopqrstuvwxyz" : Str).cps.toList, 97 ≤ c ∧ c ≤ 122 := by decide +kernel
theorem az_len : ("abcdefghijklmnopqrstuvwxyz" : Str).cps.toList.length = 26 := by decide +kernel
theorem abcz_sz : ("abcz" : Str).length ≤ 16777216 := by decide +kernel
theorem az_sz : ("abcdefghijklmnopqrstuvwxyz" : Str).length ≤ 16777216 := by decide +kernel
/-- a nail as a text -/
def dS (x : Nat) : D := .str (tx [x])
/-- a row of letters -/
def Lt (l : List Nat) : Prop := ∀ c ∈ l, 97 ≤ c ∧ c ≤ 122
theorem az_at {i : Int} (h0 : 0 ≤ i) (h1 : i < 26) : atI (Str.ofString "abcdefghijklmnopqrstuvwxyz").cps.toList i = some (97 + i.toNat) := by
  rw [az_cps, atI_at (xs := (List.range 26).map fun i => 97 + i) (i := i) (j := i.toNat) (by omega) (by simp; omega)]
  simp
theorem lawSign_az {i : Int} (h0 : 0 ≤ i) (h1 : i < 26) : lawSign (Str.ofString "abcdefghijklmnopqrstuvwxyz") i = tx [97 + i.toNat] := by
  unfold lawSign
  rw [az_at h0 h1]
  rfl
end NL

/-! Cords as words: putting together at the front, runs, and that it is one whatever is first. -/
namespace NL
open PySem PySem.Spec L2
open PyProof.Rows hiding St

/-- a piece put ahead of runs -/
def ps (p : Pc) (w : List Pc) : List Pc := if p.2 = 0 then w else match w with
  | [] => [p]
  | l :: r => if l.1 = p.1 then (if p.2 + l.2 = 0 then r else (p.1, p.2 + l.2) :: r) else p :: l :: r
def act (c w : List Pc) : List Pc := c.foldr ps w
/-- the runs -/
def nf (c : List Pc) : List Pc := act c []
/-- no turns 0, neighbours unlike -/
def Red : List Pc → Prop
  | [] => True
  | [p] => p.2 ≠ 0
  | p :: q :: r => p.2 ≠ 0 ∧ p.1 ≠ q.1 ∧ Red (q :: r)
theorem Red.tail {p : Pc} {r : List Pc} (h : Red (p :: r)) : Red r := by
  cases r with
  | nil => trivial
  | cons q r => exact h.2.2
theorem Red.head {p : Pc} {r : List Pc} (h : Red (p :: r)) : p.2 ≠ 0 := by
  cases r with
  | nil => exact h
  | cons q r => exact h.1
theorem Red.mk {p : Pc} {r : List Pc} (h0 : p.2 ≠ 0) (h1 : ∀ q, r.head? = some q → p.1 ≠ q.1) (h : Red r) : Red (p :: r) := by
  cases r with
  | nil => exact h0
  | cons q r => exact ⟨h0, h1 q rfl, h⟩
theorem Red.ne {p q : Pc} {r : List Pc} (h : Red (p :: q :: r)) : p.1 ≠ q.1 := h.2.1
theorem Red.swap {p q : Pc} {r : List Pc} (h : Red (p :: r)) (e : q.1 = p.1) (h0 : q.2 ≠ 0) : Red (q :: r) := by
  cases r with
  | nil => exact h0
  | cons s r => exact ⟨h0, by rw [e]; exact h.2.1, h.2.2⟩
theorem ps_red {p : Pc} {w : List Pc} (h : Red w) : Red (ps p w) := by
  unfold ps
  split
  · exact h
  · rename_i h0
    cases w with
    | nil => exact h0
    | cons l r =>
      simp only
      split
      · rename_i e
        split
        · exact h.tail
        · rename_i hs
          exact h.swap e.symm hs
      · rename_i e
        exact ⟨h0, fun z => e z.symm, h⟩
theorem ps_zero {n : Str} {w : List Pc} : ps (n, 0) w = w := by simp [ps]
theorem ps_nil {p : Pc} (h : p.2 ≠ 0) : ps p [] = [p] := by simp [ps, h]
theorem ps_other {p l : Pc} {r : List Pc} (h : p.2 ≠ 0) (e : l.1 ≠ p.1) : ps p (l :: r) = p :: l :: r := by simp [ps, h, e]
theorem ps_same {p l : Pc} {r : List Pc} (h : p.2 ≠ 0) (e : l.1 = p.1) (s : p.2 + l.2 ≠ 0) : ps p (l :: r) = (p.1, p.2 + l.2) :: r := by simp [ps, h, e, s]
theorem ps_gone {p l : Pc} {r : List Pc} (h : p.2 ≠ 0) (e : l.1 = p.1) (s : p.2 + l.2 = 0) : ps p (l :: r) = r := by simp [ps, h, e, s]
/-- two pieces of one nail -/
theorem ps_ps {n : Str} {a b : Int} {w : List Pc} (hw : Red w) : ps (n, a) (ps (n, b) w) = ps (n, a + b) w := by
  by_cases ha : a = 0
  · subst ha; rw [ps_zero, Int.zero_add]
  by_cases hb : b = 0
  · subst hb; rw [ps_zero, Int.add_zero]
  cases w with
  | nil =>
    rw [ps_nil (p := (n, b)) hb]
    by_cases hs : a + b = 0
    · rw [ps_gone (p := (n, a)) (l := (n, b)) ha rfl hs, hs, ps_zero]
    · rw [ps_same (p := (n, a)) (l := (n, b)) ha rfl hs, ps_nil (p := (n, a + b)) hs]
  | cons l r =>
    by_cases e : l.1 = n
    · by_cases h1 : b + l.2 = 0
      · rw [ps_gone (p := (n, b)) hb e h1]
        have el : l.2 ≠ 0 := hw.head
        have hab : a + b + l.2 = a := by omega
        by_cases hs : a + b = 0
        · have : a = l.2 := by omega
          rw [hs, ps_zero, this]
          cases r with
          | nil => rw [ps_nil (p := (n, l.2)) el]; congr 1; exact Prod.ext e.symm rfl
          | cons q r =>
            have hq : q.1 ≠ l.1 := fun z => hw.2.1 z.symm
            rw [ps_other (p := (n, l.2)) el (by rw [← e]; exact hq)]
            congr 1
            exact Prod.ext e.symm rfl
        · rw [ps_same (p := (n, a + b)) hs e (by show a + b + l.2 ≠ 0; rw [hab]; exact ha)]
          show ps (n, a) r = (n, a + b + l.2) :: r
          rw [hab]
          cases r with
          | nil => rw [ps_nil (p := (n, a)) ha]
          | cons q r =>
            have hq : q.1 ≠ l.1 := fun z => hw.2.1 z.symm
            rw [ps_other (p := (n, a)) ha (by rw [← e]; exact hq)]
      · rw [ps_same (p := (n, b)) hb e h1]
        by_cases h2 : a + (b + l.2) = 0
        · rw [ps_gone (p := (n, a)) (l := (n, b + l.2)) ha rfl h2]
          by_cases hs : a + b = 0
          · exact absurd (show l.2 = 0 by omega) hw.head
          · rw [ps_gone (p := (n, a + b)) hs e (by show a + b + l.2 = 0; omega)]
        · rw [ps_same (p := (n, a)) (l := (n, b + l.2)) ha rfl h2]
          by_cases hs : a + b = 0
          · rw [hs, ps_zero]
            congr 1
            refine Prod.ext e.symm ?_
            show a + (b + l.2) = l.2
            omega
          · rw [ps_same (p := (n, a + b)) hs e (by show a + b + l.2 ≠ 0; omega)]
            congr 1
            refine Prod.ext rfl ?_
            show a + (b + l.2) = a + b + l.2
            omega
    · rw [ps_other (p := (n, b)) hb e]
      by_cases hs : a + b = 0
      · rw [ps_gone (p := (n, a)) (l := (n, b)) ha rfl hs, hs, ps_zero]
      · rw [ps_same (p := (n, a)) (l := (n, b)) ha rfl hs, ps_other (p := (n, a + b)) hs e]
theorem act_red {c w : List Pc} (h : Red w) : Red (act c w) := by
  induction c with
  | nil => exact h
  | cons p c ih => exact ps_red ih
theorem act_app (a b w : List Pc) : act (a ++ b) w = act a (act b w) := by simp [act, List.foldr_append]
theorem act_cons (p : Pc) (c w : List Pc) : act (p :: c) w = ps p (act c w) := rfl
theorem act_nil (w : List Pc) : act [] w = w := rfl
theorem nf_red (c : List Pc) : Red (nf c) := act_red (c := c) (w := []) trivial
theorem red_nf {w : List Pc} (h : Red w) : nf w = w := by
  induction w with
  | nil => rfl
  | cons p r ih =>
    show ps p (nf r) = p :: r
    rw [ih h.tail]
    cases r with
    | nil => exact ps_nil h
    | cons q r => exact ps_other h.1 fun z => h.2.1 z.symm
theorem nf_nf (c : List Pc) : nf (nf c) = nf c := red_nf (nf_red c)
theorem nf_app (a b : List Pc) : nf (a ++ b) = act a (nf b) := act_app a b []
/-- two cords that do one thing to runs -/
def Eqv (a b : List Pc) : Prop := ∀ w, Red w → act a w = act b w
theorem Eqv.refl (a : List Pc) : Eqv a a := fun _ _ => rfl
theorem Eqv.symm {a b : List Pc} (h : Eqv a b) : Eqv b a := fun w r => (h w r).symm
theorem Eqv.trans {a b c : List Pc} (h : Eqv a b) (g : Eqv b c) : Eqv a c := fun w r => (h w r).trans (g w r)
theorem Eqv.app {a b c d : List Pc} (h : Eqv a b) (g : Eqv c d) : Eqv (a ++ c) (b ++ d) := fun w r => by
  rw [act_app, act_app, g w r, h _ (act_red r)]
theorem Eqv.nf {a b : List Pc} (h : Eqv a b) : nf a = nf b := h [] trivial
/-- a cord does what its runs do -/
theorem eqv_nf (c : List Pc) : Eqv c (nf c) := by
  induction c with
  | nil => exact .refl _
  | cons p c ih =>
    intro w r
    rw [act_cons, ih w r]
    show ps p (act (nf c) w) = act (ps p (nf c)) w
    have hr := nf_red c
    generalize nf c = u at hr
    by_cases h0 : p.2 = 0
    · have : p = (p.1, 0) := Prod.ext rfl h0
      rw [this, ps_zero, ps_zero]
    cases u with
    | nil => rw [ps_nil h0]; rfl
    | cons l t =>
      by_cases e : l.1 = p.1
      · have e1 : l = (p.1, l.2) := Prod.ext e rfl
        have key : ps p (act (l :: t) w) = ps (p.1, p.2 + l.2) (act t w) := by
          rw [act_cons, e1]
          exact ps_ps (n := p.1) (a := p.2) (b := l.2) (act_red r)
        rw [key]
        by_cases hs : p.2 + l.2 = 0
        · rw [hs, ps_zero, ps_gone h0 e hs]
        · rw [ps_same h0 e hs]; rfl
      · rw [ps_other h0 e]; rfl
theorem nf_eqv {a b : List Pc} (h : nf a = nf b) : Eqv a b := (eqv_nf a).trans (by rw [h]; exact (eqv_nf b).symm)
theorem eqv_iff' {a b : List Pc} : Eqv a b ↔ nf a = nf b := ⟨Eqv.nf, nf_eqv⟩
theorem nf_app2 (a b : List Pc) : nf (a ++ b) = nf (nf a ++ nf b) := ((eqv_nf a).app (eqv_nf b)).nf
theorem nf_appR (a b : List Pc) : nf (a ++ b) = nf (a ++ nf b) := ((Eqv.refl a).app (eqv_nf b)).nf
theorem nf_appL (a b : List Pc) : nf (a ++ b) = nf (nf a ++ b) := ((eqv_nf a).app (Eqv.refl b)).nf
theorem nf_congr {a b c d : List Pc} (h : nf a = nf b) (g : nf c = nf d) : nf (a ++ c) = nf (b ++ d) := ((nf_eqv h).app (nf_eqv g)).nf
/-! ### one after the other, at the back -/
theorem Red.app_one : ∀ {w : List Pc} {p : Pc}, Red w → p.2 ≠ 0 → (∀ q, w.getLast? = some q → q.1 ≠ p.1) → Red (w ++ [p])
  | [], p, _, h, _ => h
  | [q], p, h, h0, h1 => ⟨h, h1 q rfl, h0⟩
  | q :: s :: r, p, h, h0, h1 => ⟨h.1, h.2.1, Red.app_one (w := s :: r) h.2.2 h0 fun t ht => h1 t (by rw [List.getLast?_cons_cons]; exact ht)⟩
theorem Red.rev : ∀ {w : List Pc}, Red w → Red w.reverse
  | [], _ => trivial
  | [p], h => h
  | p :: q :: r, h => by
    rw [List.reverse_cons]
    refine Red.app_one (Red.rev h.2.2) h.1 fun t ht => ?_
    rw [List.getLast?_reverse] at ht
    cases ht
    exact fun z => h.2.1 z.symm
def stk (st : List Pc) (p : Pc) : List Pc := ps p st
/-- the stack (its top first) behind some pieces does what they do -/
theorem stk_act : ∀ (c st : List Pc), Red st → Red (c.foldl stk st) ∧ ∀ w, Red w → act (c.foldl stk st).reverse w = act (st.reverse ++ c) w
  | [], st, h => ⟨h, fun w r => by simp⟩
  | p :: c, st, h => by
    obtain ⟨h1, h2⟩ := stk_act c (stk st p) (ps_red h)
    refine ⟨h1, fun w r => ?_⟩
    show act (List.foldl stk (stk st p) c).reverse w = _
    rw [h2 w r, act_app, act_app]
    show act (ps p st).reverse (act c w) = act st.reverse (ps p (act c w))
    have hr : Red (act c w) := act_red r
    generalize act c w = u at hr
    by_cases h0 : p.2 = 0
    · have : p = (p.1, 0) := Prod.ext rfl h0
      rw [this, ps_zero, ps_zero]
    cases st with
    | nil => rw [ps_nil h0]; rfl
    | cons l t =>
      by_cases e : l.1 = p.1
      · have e1 : l = (p.1, l.2) := Prod.ext e rfl
        have key : act (l :: t).reverse (ps p u) = act t.reverse (ps (p.1, p.2 + l.2) u) := by
          rw [List.reverse_cons, act_app]
          congr 1
          show ps l (ps p u) = _
          rw [e1]
          have := ps_ps (n := p.1) (a := l.2) (b := p.2) hr
          rw [show p.2 + l.2 = l.2 + p.2 by omega]
          exact this
        rw [key]
        by_cases hs : p.2 + l.2 = 0
        · rw [hs, ps_zero, ps_gone h0 e hs]
        · rw [ps_same h0 e hs, List.reverse_cons, act_app]; rfl
      · rw [ps_other h0 e, List.reverse_cons, act_app]; rfl
/-- the runs, put together from the beginning -/
def short (c : List Pc) : List Pc := (c.foldl stk []).reverse
theorem short_nf (c : List Pc) : short c = nf c := by
  obtain ⟨h1, h2⟩ := stk_act c [] trivial
  have h3 := h2 [] trivial
  have h4 := red_nf h1.rev
  show (c.foldl stk []).reverse = nf c
  rw [← h4]
  exact h3
/-- the runs, put together from the end: a stack, its top first -/
theorem end_nf (c : List Pc) : c.reverse.foldl stk [] = nf c := by
  rw [List.foldl_reverse]
  rfl
theorem stk_len : ∀ (c st : List Pc), (c.foldl stk st).length ≤ c.length + st.length
  | [], st => by simp
  | p :: c, st => by
    have h := stk_len c (stk st p)
    have : (stk st p).length ≤ st.length + 1 := by
      unfold stk ps
      split
      · omega
      · split
        · simp
        · split
          · split <;> simp <;> omega
          · simp
    simp only [List.foldl_cons, List.length_cons]
    omega
theorem nf_len (c : List Pc) : (nf c).length ≤ c.length := by
  have := stk_len c []
  rw [← short_nf]
  simpa [short] using this
theorem ps_mem {p q : Pc} {w : List Pc} (h : q ∈ ps p w) : q ∈ w ∨ q.1 = p.1 := by
  unfold ps at h
  split at h
  · exact .inl h
  · split at h
    · simp at h; exact .inr (by rw [h])
    · split at h
      · split at h
        · exact .inl (List.mem_cons_of_mem _ h)
        · rcases List.mem_cons.mp h with e | e
          · exact .inr (by rw [e])
          · exact .inl (List.mem_cons_of_mem _ e)
      · rcases List.mem_cons.mp h with e | e
        · exact .inr (by rw [e])
        · exact .inl e
theorem nf_nails {c : List Pc} {q : Pc} (h : q ∈ nf c) : ∃ p ∈ c, q.1 = p.1 := by
  induction c with
  | nil => cases h
  | cons p c ih =>
    rcases ps_mem (p := p) (w := nf c) h with e | e
    · obtain ⟨r, hr, e⟩ := ih e
      exact ⟨r, List.mem_cons_of_mem _ hr, e⟩
    · exact ⟨p, List.mem_cons_self, e⟩
theorem nf_ok {c : List Pc} (h : OkC c) : OkC (nf c) := fun q hq => by
  obtain ⟨p, hp, e⟩ := nf_nails hq
  rw [e]
  exact h p hp
/-! ### the contrary -/
def con (c : List Pc) : List Pc := c.reverse.map fun p => (p.1, -p.2)
theorem con_con (c : List Pc) : con (con c) = c := by
  unfold con
  rw [← List.map_reverse, List.reverse_reverse, List.map_map]
  conv => rhs; rw [← List.map_id c]
  apply List.map_congr_left
  intro p _
  simp
theorem con_app (a b : List Pc) : con (a ++ b) = con b ++ con a := by simp [con]
theorem con_cons (p : Pc) (c : List Pc) : con (p :: c) = con c ++ [(p.1, -p.2)] := by simp [con]
theorem con_len (c : List Pc) : (con c).length = c.length := by simp [con]
theorem eqv_one (p : Pc) : Eqv ([p] ++ con [p]) [] := fun w r => by
  show ps p (ps (p.1, -p.2) w) = w
  have := ps_ps (n := p.1) (a := p.2) (b := -p.2) r
  rw [show p.2 + -p.2 = 0 by omega, ps_zero] at this
  exact this
theorem eqv_con (c : List Pc) : Eqv (c ++ con c) [] := by
  induction c with
  | nil => exact .refl _
  | cons p c ih =>
    rw [con_cons]
    have e : p :: c ++ (con c ++ [(p.1, -p.2)]) = [p] ++ ((c ++ con c) ++ [(p.1, -p.2)]) := by simp
    rw [e]
    exact (((Eqv.refl [p]).app (ih.app (.refl _))).trans (by simpa [con] using eqv_one p))
theorem eqv_con' (c : List Pc) : Eqv (con c ++ c) [] := by
  have := eqv_con (con c)
  rwa [con_con] at this
theorem nf_con (c : List Pc) : nf (c ++ con c) = [] := (eqv_con c).nf
theorem nf_con' (c : List Pc) : nf (con c ++ c) = [] := (eqv_con' c).nf
theorem nf_mid {u v : List Pc} (l r : List Pc) (h : Eqv u v) : nf (l ++ u ++ r) = nf (l ++ v ++ r) := (((Eqv.refl l).app h).app (.refl r)).nf
theorem eqv_mid {l r u v : List Pc} (h : nf (l ++ u ++ r) = nf (l ++ v ++ r)) : Eqv u v := by
  have e := nf_eqv h
  have key : ∀ z : List Pc, Eqv (con l ++ (l ++ z ++ r) ++ con r) z := fun z => by
    have h1 := ((eqv_con' l).app (Eqv.refl z)).app (eqv_con r)
    simp only [List.nil_append, List.append_nil, List.append_assoc] at h1 ⊢
    exact h1
  exact (key u).symm.trans ((((Eqv.refl (con l)).app e).app (.refl (con r))).trans (key v))
theorem eqv_part {n : Str} {a b t : Int} (h : a + b = t) : Eqv [(n, t)] [(n, a), (n, b)] := fun w r => by
  show ps (n, t) w = ps (n, a) (ps (n, b) w)
  rw [ps_ps r, h]
theorem eqv_zero {n : Str} : Eqv [] [(n, 0)] := fun w _ => (ps_zero (n := n) (w := w)).symm
theorem one_ne {l r : List Pc} {p : Pc} (h : nf (l ++ [p] ++ r) = nf (l ++ r)) : p.2 = 0 := by
  by_cases h0 : p.2 = 0
  · exact h0
  · have h' : nf (l ++ [p] ++ r) = nf (l ++ [] ++ r) := by rw [List.append_nil]; exact h
    have e := (eqv_mid h').nf
    have : nf [p] = [p] := ps_nil h0
    rw [this] at e
    cases e
theorem con_red {w : List Pc} (h : Red w) : Red (con w) := by
  unfold con
  have := h.rev
  generalize w.reverse = u at this
  induction u with
  | nil => trivial
  | cons p r ih =>
    cases r with
    | nil => show -p.2 ≠ 0; have : p.2 ≠ 0 := this; omega
    | cons q r => exact ⟨by have := this.1; show -p.2 ≠ 0; omega, this.2.1, ih this.2.2⟩
theorem eqv_con_congr {a b : List Pc} (h : Eqv a b) : Eqv (con a) (con b) := by
  have e1 : Eqv (con a) (con a ++ (b ++ con b)) := by
    have := (Eqv.refl (con a)).app (eqv_con b).symm
    simpa using this
  have e2 : Eqv (con a ++ (b ++ con b)) (con a ++ (a ++ con b)) := (Eqv.refl _).app (h.symm.app (.refl _))
  have e3 : Eqv (con a ++ (a ++ con b)) (con b) := by
    have := (eqv_con' a).app (Eqv.refl (con b))
    rw [List.append_assoc] at this
    simpa using this
  exact (e1.trans e2).trans e3
theorem nf_con_nf (c : List Pc) : nf (con c) = con (nf c) := by
  rw [(eqv_con_congr (eqv_nf c)).nf]
  exact red_nf (con_red (nf_red c))
theorem con_ok {c : List Pc} (h : OkC c) : OkC (con c) := fun q hq => by
  obtain ⟨p, hp, rfl⟩ := List.mem_map.mp hq
  exact h p (List.mem_reverse.mp hp)
theorem con_gd {b : Int} {c : List Pc} (h : Gds b c) : Gds b (con c) := fun q hq => by
  obtain ⟨p, hp, rfl⟩ := List.mem_map.mp hq
  obtain ⟨h1, h2, h3⟩ := h p (List.mem_reverse.mp hp)
  exact ⟨h1, by show -b ≤ -p.2; omega, by show -p.2 ≤ b; omega⟩
theorem OkC.app {c d : List Pc} (h : OkC c) (g : OkC d) : OkC (c ++ d) := fun p hp => (List.mem_append.mp hp).elim (h p) (g p)
theorem OkC.sub {c d : List Pc} (h : OkC c) (g : ∀ p ∈ d, p ∈ c) : OkC d := fun p hp => h p (g p hp)
theorem split_at {c : List Pc} {i : Nat} (h : i < c.length) : c = c.take i ++ [c[i]] ++ c.drop (i + 1) := by
  have : c.take i ++ [c[i]] = c.take (i + 1) := by rw [List.take_succ_eq_append_getElem h]
  rw [this, List.take_append_drop]
theorem split_at2 {c : List Pc} {i : Nat} (h : i + 1 < c.length) : c = c.take i ++ [c[i], c[i + 1]] ++ c.drop (i + 2) := by
  have h1 := split_at (c := c) (i := i + 1) h
  have h2 : c.take (i + 1) = c.take i ++ [c[i]] := List.take_succ_eq_append_getElem (by omega)
  rw [h2] at h1
  simpa using h1
theorem nf_bd {b : Int} (b0 : 0 ≤ b) : ∀ {c : List Pc}, (∀ p ∈ c, -b ≤ p.2 ∧ p.2 ≤ b) → ∀ p ∈ nf c, -(c.length * b) ≤ p.2 ∧ p.2 ≤ c.length * b
  | [], _, p, h => by cases h
  | q :: c, hc, p, h => by
    have ih := nf_bd b0 (c := c) fun z hz => hc z (by simp [hz])
    have hq := hc q (by simp)
    have e : ((q :: c).length : Int) * b = c.length * b + b := by
      rw [List.length_cons, Int.natCast_succ, Int.add_mul, Int.one_mul]
    have hm : 0 ≤ (c.length : Int) * b := Int.mul_nonneg (by omega) b0
    rw [e]
    have up : ∀ z ∈ nf c, -(c.length * b + b) ≤ z.2 ∧ z.2 ≤ c.length * b + b := fun z hz => by
      have := ih z hz
      omega
    change p ∈ ps q (nf c) at h
    unfold ps at h
    split at h
    · exact up p h
    · split at h
      · rw [List.mem_singleton] at h
        subst h
        omega
      · rename_i l r hw
        rw [hw] at up ih
        split at h
        · split at h
          · exact up p (by simp [h])
          · rcases List.mem_cons.mp h with z | z
            · have := ih l (by simp)
              subst z
              simp only
              omega
            · exact up p (by simp [z])
        · rcases List.mem_cons.mp h with z | z
          · subst z; omega
          · exact up p z
/-! ### the row of a cord's nails -/
def lts (c : List Pc) : List Nat := (c.map fun p => p.1.cps.toList).flatten
theorem glue_fold : ∀ (r : List Str) (a : Array Nat), (r.foldl (fun acc p => acc ++ (tx []).cps ++ p.cps) a).toList = a.toList ++ (r.map (·.cps.toList)).flatten
  | [], a => by simp
  | s :: r, a => by
    rw [List.foldl_cons, glue_fold r]
    simp [tx]
theorem join_nil (ss : List Str) : Txt.join (tx []) ss = tx (ss.map (·.cps.toList)).flatten := by
  cases ss with
  | nil => rfl
  | cons s r =>
    show (⟨r.foldl (fun acc p => acc ++ (tx []).cps ++ p.cps) s.cps⟩ : Str) = _
    rw [tx_of (⟨r.foldl (fun acc p => acc ++ (tx []).cps ++ p.cps) s.cps⟩ : Str)]
    rw [glue_fold r s.cps]
    rfl
def Nl (c : List Pc) : Prop := ∀ p ∈ c, isNail p.1
theorem Gds.nl {b : Int} {c : List Pc} (h : Gds b c) : Nl c := fun p hp => (h p hp).1
theorem Nl.ok {c : List Pc} (h : Nl c) : OkC c := fun p hp => (h p hp).ok
theorem Nl.nf {c : List Pc} (h : Nl c) : Nl (nf c) := fun q hq => by
  obtain ⟨p, hp, e⟩ := nf_nails hq
  rw [e]
  exact h p hp
theorem Nl.app {c d : List Pc} (h : Nl c) (g : Nl d) : Nl (c ++ d) := fun p hp => (List.mem_append.mp hp).elim (h p) (g p)
theorem Nl.con {c : List Pc} (h : Nl c) : Nl (con c) := fun q hq => by
  obtain ⟨p, hp, rfl⟩ := List.mem_map.mp hq
  exact h p (List.mem_reverse.mp hp)
theorem Nl.tail {p : Pc} {c : List Pc} (h : Nl (p :: c)) : Nl c := fun q hq => h q (by simp [hq])
theorem lts_cons {p : Pc} {c : List Pc} {x : Nat} (h : p.1 = tx [x]) : lts (p :: c) = x :: lts c := by
  unfold lts
  rw [List.map_cons, List.flatten_cons, h, tx_cps]
  rfl
theorem lts_len : ∀ {c : List Pc}, Nl c → (lts c).length = c.length
  | [], _ => rfl
  | p :: c, h => by
    obtain ⟨x, hx, _⟩ := h p (by simp)
    rw [lts_cons hx, List.length_cons, List.length_cons, lts_len h.tail]
theorem nl_sum : ∀ {c : List Pc}, Nl c → ((c.map fun p => p.1).map (·.length)).sum = c.length
  | [], _ => rfl
  | p :: c, h => by
    obtain ⟨x, hx, _⟩ := h p (by simp)
    rw [List.map_cons, List.map_cons, List.sum_cons, nl_sum h.tail, hx, tx_len, List.length_cons, List.length_cons]
    simp
    omega
/-- the product of the turns -/
def prd (c : List Pc) : Int := c.foldr (fun p z => p.2 * z) 1
theorem prd_ne : ∀ {w : List Pc}, Red w → prd w ≠ 0
  | [], _ => by decide
  | p :: w, h => Int.mul_ne_zero h.head (prd_ne h.tail)
end NL

/-! How many times a row stands in a cord. -/
namespace NL
open PySem PySem.Spec L2
open PyProof.Rows hiding St

def fal (t : Int) : Nat → Int
  | 0 => 1
  | m + 1 => fal t m * (t - m)
def fac : Nat → Int
  | 0 => 1
  | m + 1 => fac m * (m + 1)
theorem fac_pos : ∀ m, 0 < fac m
  | 0 => by decide
  | m + 1 => Int.mul_pos (fac_pos m) (by omega)
theorem fal_succ (t : Int) : ∀ m, fal (t + 1) (m + 1) = (t + 1) * fal t m
  | 0 => by simp [fal]
  | m + 1 => by
    have ih := fal_succ t m
    show fal (t + 1) (m + 1) * (t + 1 - ((m + 1 : Nat) : Int)) = (t + 1) * (fal t m * (t - m))
    rw [ih, Int.mul_assoc]
    congr 2
    omega
theorem fal_pascal (t : Int) (m : Nat) : fal (t + 1) (m + 1) = fal t (m + 1) + (m + 1) * fal t m := by
  rw [fal_succ]
  show _ = fal t m * (t - m) + _
  grind
theorem up_down {p : Int → Prop} (h0 : p 0) (hs : ∀ t, p t ↔ p (t + 1)) (t : Int) : p t := by
  have up : ∀ n : Nat, p n := fun n => by
    induction n with
    | zero => exact h0
    | succ n ih => exact (hs _).mp ih
  have down : ∀ n : Nat, p (-(n : Int)) := fun n => by
    induction n with
    | zero => exact h0
    | succ n ih => exact (hs _).mpr (by rw [show -((n + 1 : Nat) : Int) + 1 = -(n : Int) by omega]; exact ih)
  rcases Int.le_total 0 t with h | h
  · have := up t.toNat
    rwa [Int.toNat_of_nonneg h] at this
  · have := down (-t).toNat
    rwa [Int.toNat_of_nonneg (by omega), Int.neg_neg] at this
theorem fal0 : ∀ m, fal 0 (m + 1) = 0
  | 0 => by simp [fal]
  | m + 1 => by
    show fal 0 (m + 1) * _ = 0
    rw [fal0 m, Int.zero_mul]
theorem fac_dvd : ∀ (m : Nat) (t : Int), fac m ∣ fal t m
  | 0, _ => ⟨1, rfl⟩
  | m + 1, t => by
    have ih := fac_dvd m
    refine up_down (p := fun t => fac (m + 1) ∣ fal t (m + 1)) ?_ (fun t => ?_) t
    · rw [fal0]; exact Int.dvd_zero _
    · have h : fac (m + 1) ∣ (m + 1) * fal t m := by
        obtain ⟨c, hc⟩ := ih t
        exact ⟨c, by rw [hc]; show _ = fac m * (m + 1) * c; grind⟩
      rw [fal_pascal]
      constructor
      · exact fun z => Int.dvd_add z h
      · intro z
        have := Int.dvd_sub z h
        rwa [Int.add_sub_cancel] at this
/-- the ways to take m of t -/
def ch (t : Int) (m : Nat) : Int := fal t m / fac m
theorem ch_mul (t : Int) (m : Nat) : ch t m * fac m = fal t m := Int.ediv_mul_cancel (fac_dvd m t)
theorem ch_eq {t z : Int} {m : Nat} (h : z * fac m = fal t m) : ch t m = z := by
  unfold ch
  rw [← h, Int.mul_ediv_cancel _ (Int.ne_of_gt (fac_pos m))]
theorem ch_zero (t : Int) : ch t 0 = 1 := ch_eq rfl
theorem ch_pascal (t : Int) (m : Nat) : ch (t + 1) (m + 1) = ch t (m + 1) + ch t m := by
  apply ch_eq
  have h1 := ch_mul t (m + 1)
  have h2 := ch_mul t m
  rw [fal_pascal, Int.add_mul, h1, ← h2]
  show _ + _ * (fac m * (m + 1)) = _
  grind
theorem ch0 (m : Nat) : ch 0 (m + 1) = 0 := ch_eq (by rw [fal0, Int.zero_mul])
theorem ch1 (m : Nat) : ch 1 (m + 2) = 0 := by
  have := ch_pascal 0 (m + 1)
  rw [ch0, ch0] at this
  exact this
theorem ch_step (t : Int) (m : Nat) : ch t m * (t - m) / (m + 1) = ch t (m + 1) := by
  have h1 := ch_mul t (m + 1)
  have h2 := ch_mul t m
  have hp := fac_pos m
  have key : ch t m * (t - m) = ch t (m + 1) * (m + 1) := by
    apply Int.eq_of_mul_eq_mul_right (Int.ne_of_gt hp)
    have e1 : ch t (m + 1) * (fac m * (m + 1)) = fal t m * (t - m) := h1
    rw [← h2] at e1
    grind
  rw [key, Int.mul_ediv_cancel _ (by omega)]

/-! ### sums over runs of one nail at the beginning -/
def xx (n : Str) (A : List Nat → Int) (f : Nat → Int) : Nat → List Nat → Int
  | m, [] => A [] * f m
  | m, x :: r => A (x :: r) * f m + if tx [x] = n then xx n A f (m + 1) r else 0
/-- a piece more, to what a row's beginnings (turned round) stand for -/
def stp (p : Pc) (A : List Nat → Int) (r : List Nat) : Int := xx p.1 A (ch p.2) 0 r
def one0 : List Nat → Int
  | [] => 1
  | _ :: _ => 0
/-- the times of a row, the row turned round -/
def tim (c : List Pc) : List Nat → Int := c.foldl (fun A p => stp p A) one0
theorem tim_app (c : List Pc) (p : Pc) : tim (c ++ [p]) = stp p (tim c) := by simp [tim, List.foldl_append]
/-! sums of sums -/
theorem xx_shift {n : Str} {A : List Nat → Int} {g : Nat → Int} : ∀ (r : List Nat) (m : Nat), xx n A (fun j => g (j + 1)) m r = xx n A g (m + 1) r
  | [], m => rfl
  | x :: r, m => by simp only [xx, xx_shift r (m + 1)]
theorem xx_add {n : Str} {A : List Nat → Int} {f g : Nat → Int} : ∀ (r : List Nat) (m : Nat), xx n A (fun j => f j + g j) m r = xx n A f m r + xx n A g m r
  | [], m => by simp only [xx, Int.mul_add]
  | x :: r, m => by
    simp only [xx, xx_add r (m + 1), Int.mul_add]
    split <;> omega
theorem xx_mul {n : Str} {A : List Nat → Int} {f : Nat → Int} {b : Int} : ∀ (r : List Nat) (m : Nat), xx n A (fun j => b * f j) m r = b * xx n A f m r
  | [], m => by simp only [xx]; grind
  | x :: r, m => by
    simp only [xx, xx_mul r (m + 1)]
    split <;> grind
theorem xx_zero {n : Str} {A : List Nat → Int} {f : Nat → Int} : ∀ (r : List Nat) (m : Nat), (∀ j, m ≤ j → f j = 0) → xx n A f m r = 0
  | [], m, h => by simp [xx, h m (Nat.le_refl m)]
  | x :: r, m, h => by
    simp only [xx, h m (Nat.le_refl m), xx_zero r (m + 1) fun j hj => h j (by omega)]
    simp
def SS (A B : List Nat → Int) : List Nat → List Nat → Int
  | pre, [] => A pre * B []
  | pre, y :: suf => A pre * B (y :: suf) + SS A B (y :: pre) suf
theorem SS_key (p : Pc) (A B : List Nat → Int) : ∀ (suf pre : List Nat), SS (stp p A) B pre suf + A pre * stp p B suf = SS A (stp p B) pre suf + xx p.1 A (fun j => xx p.1 B (ch p.2) j suf) 0 pre
  | [], pre => by
    show stp p A pre * B [] + A pre * stp p B [] = A pre * stp p B [] + xx p.1 A (fun j => B [] * ch p.2 j) 0 pre
    rw [xx_mul]
    show xx p.1 A (ch p.2) 0 pre * B [] + _ = _
    grind
  | y :: suf, pre => by
    have ih := SS_key p A B suf (y :: pre)
    have e1 : xx p.1 A (fun j => xx p.1 B (ch p.2) j suf) 0 (y :: pre) = A (y :: pre) * stp p B suf + if tx [y] = p.1 then xx p.1 A (fun j => xx p.1 B (ch p.2) j suf) 1 pre else 0 := rfl
    rw [e1] at ih
    have e2 : xx p.1 A (fun j => xx p.1 B (ch p.2) j (y :: suf)) 0 pre = B (y :: suf) * stp p A pre + if tx [y] = p.1 then xx p.1 A (fun j => xx p.1 B (ch p.2) j suf) 1 pre else 0 := by
      show xx p.1 A (fun j => B (y :: suf) * ch p.2 j + if tx [y] = p.1 then xx p.1 B (ch p.2) (j + 1) suf else 0) 0 pre = _
      rw [xx_add, xx_mul]
      congr 1
      split
      · exact xx_shift (g := fun j => xx p.1 B (ch p.2) j suf) pre 0
      · exact xx_zero pre 0 fun _ _ => rfl
    rw [e2]
    show stp p A pre * B (y :: suf) + SS (stp p A) B (y :: pre) suf + A pre * stp p B (y :: suf) = A pre * stp p B (y :: suf) + SS A (stp p B) (y :: pre) suf + _
    grind
theorem SS_one (p : Pc) (A B : List Nat → Int) (row : List Nat) : SS (stp p A) B [] row = SS A (stp p B) [] row := by
  have h := SS_key p A B row []
  have e : xx p.1 A (fun j => xx p.1 B (ch p.2) j row) 0 [] = A [] * stp p B row := rfl
  rw [e] at h
  omega
/-- what a cord's end makes of what rows stand for behind it -/
def wyA (c : List Pc) (B : List Nat → Int) : List Nat → Int := c.foldr (fun p B => stp p B) B
def wy (c : List Pc) : List Nat → Int := wyA c one0
theorem SS_all (row : List Nat) : ∀ (c : List Pc) (A B : List Nat → Int), SS (c.foldl (fun A p => stp p A) A) B [] row = SS A (wyA c B) [] row
  | [], A, B => rfl
  | p :: c, A, B => by
    rw [List.foldl_cons, SS_all row c]
    exact SS_one p A _ row
theorem SS_right (A : List Nat → Int) : ∀ (suf pre : List Nat), SS A one0 pre suf = A (suf.reverse ++ pre)
  | [], pre => by simp [SS, one0]
  | y :: suf, pre => by simp [SS, one0, SS_right A suf]
theorem SS_left0 (B : List Nat → Int) : ∀ (suf pre : List Nat) (y : Nat), SS one0 B (y :: pre) suf = 0
  | [], pre, y => by simp [SS, one0]
  | z :: suf, pre, y => by simp [SS, one0, SS_left0 B suf]
theorem SS_left (B : List Nat → Int) (suf : List Nat) : SS one0 B [] suf = B suf := by
  cases suf with
  | nil => simp [SS, one0]
  | cons y suf => simp [SS, one0, SS_left0]
theorem wy_tim (c : List Pc) (row : List Nat) : wy c row = tim c row.reverse := by
  have h := SS_all row c one0 one0
  rw [SS_right, SS_left, List.append_nil] at h
  exact h.symm
theorem tim_wy (c : List Pc) (row : List Nat) : tim c row = wy c row.reverse := by rw [wy_tim, List.reverse_reverse]

/-! ### pieces put together -/
theorem stp_zero (n : Str) (A : List Nat → Int) : stp (n, 0) A = A := by
  funext r
  show xx n A (ch 0) 0 r = A r
  cases r with
  | nil => show A [] * ch 0 0 = _; rw [ch_zero, Int.mul_one]
  | cons x r =>
    show A (x :: r) * ch 0 0 + (if tx [x] = n then xx n A (ch 0) 1 r else 0) = _
    rw [ch_zero, xx_zero r 1 fun j hj => by obtain ⟨i, rfl⟩ : ∃ i, j = i + 1 := ⟨j - 1, by omega⟩; exact ch0 i]
    simp
/-- one turn more -/
def bump (n : Str) (A : List Nat → Int) : List Nat → Int
  | [] => A []
  | x :: r => A (x :: r) + if tx [x] = n then A r else 0
theorem stp_succ (n : Str) (t : Int) (A : List Nat → Int) : stp (n, t + 1) A = bump n (stp (n, t) A) := by
  funext r
  show xx n A (ch (t + 1)) 0 r = bump n (fun r => xx n A (ch t) 0 r) r
  cases r with
  | nil => show A [] * ch (t + 1) 0 = A [] * ch t 0; rw [ch_zero, ch_zero]
  | cons x r =>
    show A (x :: r) * ch (t + 1) 0 + (if tx [x] = n then xx n A (ch (t + 1)) 1 r else 0) = A (x :: r) * ch t 0 + (if tx [x] = n then xx n A (ch t) 1 r else 0) + if tx [x] = n then xx n A (ch t) 0 r else 0
    rw [ch_zero, ch_zero, ← xx_shift (g := ch (t + 1)) r 0]
    have : (fun j => ch (t + 1) (j + 1)) = fun j => ch t (j + 1) + ch t j := funext fun j => ch_pascal t j
    rw [this, xx_add, xx_shift (g := ch t) r 0]
    simp only [Nat.zero_add]
    split <;> omega
theorem bump_inj {n : Str} {A B : List Nat → Int} (h : bump n A = bump n B) : A = B := by
  funext r
  induction r with
  | nil => exact congrFun h []
  | cons x r ih =>
    have := congrFun h (x :: r)
    simp only [bump, ih] at this
    omega
theorem stp_stp (n : Str) (a b : Int) (A : List Nat → Int) : stp (n, a) (stp (n, b) A) = stp (n, a + b) A := by
  refine up_down (p := fun a => stp (n, a) (stp (n, b) A) = stp (n, a + b) A) ?_ (fun a => ?_) a
  · rw [stp_zero, Int.zero_add]
  · rw [show a + 1 + b = a + b + 1 by omega, stp_succ, stp_succ]
    exact ⟨fun h => by rw [h], bump_inj⟩
theorem wyA_ps (p : Pc) (w : List Pc) (B : List Nat → Int) : wyA (ps p w) B = stp p (wyA w B) := by
  unfold ps
  split
  · rename_i h
    have : p = (p.1, 0) := Prod.ext rfl h
    rw [this, stp_zero]
  · cases w with
    | nil => rfl
    | cons l r =>
      simp only
      split
      · rename_i e
        have el : l = (p.1, l.2) := Prod.ext e rfl
        have key : stp p (wyA (l :: r) B) = stp (p.1, p.2 + l.2) (wyA r B) := by
          show stp p (stp l (wyA r B)) = _
          rw [el]
          exact stp_stp p.1 p.2 l.2 (wyA r B)
        rw [key]
        split
        · rename_i hs
          rw [hs, stp_zero]
        · rfl
      · rfl
theorem wyA_act (c w : List Pc) (B : List Nat → Int) : wyA (act c w) B = wyA c (wyA w B) := by
  induction c with
  | nil => rfl
  | cons p c ih =>
    rw [act_cons, wyA_ps, ih]
    rfl
theorem wyA_nf (c : List Pc) (B : List Nat → Int) : wyA (nf c) B = wyA c B := wyA_act c [] B
theorem wyA_app (c d : List Pc) (B : List Nat → Int) : wyA (c ++ d) B = wyA c (wyA d B) := by simp [wyA, List.foldr_append]
theorem wy_nf (c : List Pc) : wy (nf c) = wy c := wyA_nf c one0
theorem wy_congr {c d : List Pc} (h : nf c = nf d) : wy c = wy d := by rw [← wy_nf c, h, wy_nf]
theorem wy_fall {c : List Pc} (h : nf c = []) : wy c = one0 := by rw [← wy_nf c, h]; rfl
theorem tim_congr {c d : List Pc} (h : nf c = nf d) : tim c = tim d := funext fun r => by rw [tim_wy, tim_wy, wy_congr h]
theorem ch_one (t : Int) : ch t 1 = t := ch_eq (by simp [fac, fal])
/-! ### how great -/
theorem two_le {a b : Nat} (h : a ≤ b) : (2 : Nat) ^ a ≤ 2 ^ b := Nat.pow_le_pow_right (by decide) h
theorem fal_bd {t : Int} (h : t.natAbs ≤ 2 ^ 120) : ∀ m : Nat, m ≤ 64 → (fal t m).natAbs ≤ 2 ^ (121 * m)
  | 0, _ => by show (1 : Int).natAbs ≤ 2 ^ (121 * 0); decide
  | m + 1, hm => by
    have ih := fal_bd h m (by omega)
    show (fal t m * (t - m)).natAbs ≤ _
    rw [Int.natAbs_mul, Nat.mul_succ, Nat.pow_add]
    refine Nat.mul_le_mul ih ?_
    have e1 : (2 : Nat) ^ 120 = 1329227995784915872903807060280344576 := by decide
    have e2 : (2 : Nat) ^ 121 = 2658455991569831745807614120560689152 := by decide
    omega
theorem ch_bd {t : Int} (h : t.natAbs ≤ 2 ^ 120) {m : Nat} (hm : m ≤ 64) : (ch t m).natAbs ≤ 2 ^ (121 * m) := by
  refine Nat.le_trans ?_ (fal_bd h m hm)
  rw [← ch_mul t m, Int.natAbs_mul]
  exact Nat.le_mul_of_pos_right _ (by have := fac_pos m; omega)
theorem fac_bd : ∀ m : Nat, m ≤ 64 → (fac m).natAbs ≤ 2 ^ (7 * m)
  | 0, _ => by decide
  | m + 1, hm => by
    have ih := fac_bd m (by omega)
    show (fac m * (m + 1)).natAbs ≤ _
    rw [Int.natAbs_mul, Nat.mul_succ, Nat.pow_add]
    refine Nat.mul_le_mul ih ?_
    have e2 : (2 : Nat) ^ 7 = 128 := by decide
    omega
/-- how long the run of a nail at the beginning is -/
def lead (n : Str) : List Nat → Nat
  | [] => 0
  | x :: r => if tx [x] = n then lead n r + 1 else 0
/-- no runs longer than this -/
def RL (M : Nat) : List Nat → Prop
  | [] => True
  | x :: r => lead (tx [x]) r + 1 ≤ M ∧ RL M r
theorem RL.lead {M : Nat} {n : Str} : ∀ {r : List Nat}, RL M r → lead n r ≤ M
  | [], _ => Nat.zero_le _
  | x :: r, h => by
    unfold NL.lead
    split
    · rename_i e
      rw [← e]
      exact h.1
    · exact Nat.zero_le _
theorem lead_le {n : Str} : ∀ {r : List Nat}, lead n r ≤ r.length
  | [] => Nat.zero_le _
  | x :: r => by
    unfold lead
    have := lead_le (n := n) (r := r)
    split <;> simp <;> omega
theorem RL.of {M : Nat} : ∀ {r : List Nat}, r.length ≤ M → RL M r
  | [], _ => trivial
  | x :: r, h => ⟨by have := lead_le (n := tx [x]) (r := r); simp at h; omega, RL.of (by simp at h; omega)⟩
theorem RL.tail {M : Nat} {x : Nat} {r : List Nat} (h : RL M (x :: r)) : RL M r := h.2
theorem RL.drop {M : Nat} : ∀ {r : List Nat} (i : Nat), RL M r → RL M (r.drop i)
  | r, 0, h => h
  | [], i + 1, h => h
  | x :: r, i + 1, h => by rw [List.drop_succ_cons]; exact RL.drop i h.2
/-- rows that end a row, and what they stand for, are so great at most -/
def Bdd (M N : Nat) (A : List Nat → Int) : Prop := ∀ r, RL M r → (A r).natAbs ≤ 2 ^ N
theorem xx_bd {M N F : Nat} {n : Str} {A : List Nat → Int} {f : Nat → Int} (hA : Bdd M N A) (hM : M ≤ 64) : ∀ (r : List Nat) (m : Nat), RL M r → m + lead n r ≤ M → (∀ j, j ≤ M → (f j).natAbs ≤ 2 ^ F) → (xx n A f m r).natAbs ≤ (lead n r + 1) * 2 ^ (N + F)
  | [], m, h, hl, hf => by
    show (A [] * f m).natAbs ≤ (0 + 1) * _
    rw [Int.natAbs_mul, Nat.pow_add, Nat.zero_add, Nat.one_mul]
    exact Nat.mul_le_mul (hA _ h) (hf m (by omega))
  | x :: r, m, h, hl, hf => by
    have e1 : (A (x :: r) * f m).natAbs ≤ 2 ^ (N + F) := by
      rw [Int.natAbs_mul, Nat.pow_add]
      exact Nat.mul_le_mul (hA _ h) (hf m (by omega))
    unfold xx NL.lead at *
    split
    · rename_i e
      rw [if_pos e] at hl
      have ih := xx_bd (n := n) hA hM r (m + 1) h.2 (by omega) hf
      rw [Nat.add_mul, Nat.one_mul]
      omega
    · rw [Nat.zero_add, Nat.one_mul, Int.add_zero]
      exact e1
theorem stp_bd {M N : Nat} {p : Pc} {A : List Nat → Int} (hA : Bdd M N A) (hM : M ≤ 64) (hp : p.2.natAbs ≤ 2 ^ 120) : Bdd M (N + (121 * M + 7)) (stp p A) := fun r h => by
  have h1 := xx_bd (n := p.1) (f := ch p.2) (F := 121 * M) hA hM r 0 h (by have := h.lead (n := p.1); omega) fun j hj => Nat.le_trans (ch_bd hp (by omega)) (two_le (by omega))
  have h2 := h.lead (n := p.1)
  have e : (2 : Nat) ^ (N + (121 * M + 7)) = 128 * 2 ^ (N + 121 * M) := by
    rw [show N + (121 * M + 7) = 7 + (N + 121 * M) by omega, Nat.pow_add]
  rw [e]
  exact Nat.le_trans h1 (Nat.mul_le_mul (by omega) (Nat.le_refl _))
theorem one_bd {M : Nat} : Bdd M 0 one0 := fun r _ => by cases r <;> simp [one0]
theorem tim_bd {M : Nat} (hM : M ≤ 64) : ∀ (c : List Pc) {A : List Nat → Int} {N : Nat}, (∀ p ∈ c, p.2.natAbs ≤ 2 ^ 120) → Bdd M N A → Bdd M (N + c.length * (121 * M + 7)) (c.foldl (fun A p => stp p A) A)
  | [], A, N, _, h => by simpa using h
  | p :: c, A, N, hc, h => by
    have := tim_bd hM c (fun q hq => hc q (by simp [hq])) (stp_bd h hM (hc p (by simp)))
    rw [List.foldl_cons, List.length_cons, Nat.add_mul, Nat.one_mul]
    rw [show N + (c.length * (121 * M + 7) + (121 * M + 7)) = N + (121 * M + 7) + c.length * (121 * M + 7) by omega]
    exact this
/-- what is still to come, behind the first so many -/
def rs (n : Str) (A : List Nat → Int) (f : Nat → Int) (m : Nat) : List Nat → Int
  | [] => 0
  | x :: r => if tx [x] = n then xx n A f (m + 1) r else 0
theorem rs_cons {n : Str} {A : List Nat → Int} {f : Nat → Int} {m x : Nat} {r : List Nat} : rs n A f m (x :: r) = if tx [x] = n then xx n A f (m + 1) r else 0 := rfl
theorem xx_rs {n : Str} {A : List Nat → Int} {f : Nat → Int} {m : Nat} {r : List Nat} : xx n A f m r = A r * f m + rs n A f m r := by
  cases r with
  | nil => simp [xx, rs]
  | cons x r => rfl
theorem mul_le {i j : Int} {a b : Nat} (h1 : i.natAbs ≤ 2 ^ a) (h2 : j.natAbs ≤ 2 ^ b) (h : a + b < 999990) : CMulW i j :=
  mulWn (a := a) (b := b) (Nat.lt_of_le_of_lt h1 (Nat.pow_lt_pow_right (by decide) (by omega))) (Nat.lt_of_le_of_lt h2 (Nat.pow_lt_pow_right (by decide) (by omega))) (by omega)
/-- turns of at most 120 binary figures -/
def Tb (c : List Pc) : Prop := ∀ p ∈ c, p.2.natAbs ≤ 2 ^ 120
theorem step_bd {t : Int} (ht : t.natAbs ≤ 2 ^ 120) {i : Nat} (hi : i ≤ 64) : (t - i).natAbs ≤ 2 ^ 121 := by
  have e1 : (2 : Nat) ^ 120 = 1329227995784915872903807060280344576 := by decide
  have e2 : (2 : Nat) ^ 121 = 2658455991569831745807614120560689152 := by decide
  omega
theorem rng1 {m : Nat} : rng 0 1 m = (List.range m).map fun i : Nat => (i : Int) := by
  unfold rng
  apply List.map_congr_left
  intro i _
  omega
theorem rng_next {m i : Nat} {k : Nat} {r : List Nat} (h : k :: r = (List.range m).drop i) : i < m ∧ k = i ∧ r = (List.range m).drop (i + 1) := by
  have hlt : i < m := by
    have := congrArg List.length h
    simp at this
    omega
  rw [List.drop_eq_getElem_cons (by simpa using hlt)] at h
  obtain ⟨h1, h2⟩ := List.cons.inj h
  exact ⟨hlt, by simpa using h1, h2⟩
theorem rng_end {m i : Nat} (h : [] = (List.range m).drop i) (hi : i ≤ m) : i = m := by
  have := congrArg List.length h
  simp at this
  omega
theorem wy_bd {M : Nat} (hM : M ≤ 64) : ∀ {c : List Pc}, Tb c → Bdd M (c.length * (121 * M + 7)) (wy c)
  | [], _ => by rw [List.length_nil, Nat.zero_mul]; exact one_bd
  | p :: c, h => by
    have := stp_bd (p := p) (wy_bd hM (c := c) fun q hq => h q (by simp [hq])) hM (h p (by simp))
    rw [List.length_cons, Nat.add_mul, Nat.one_mul]
    exact this
theorem Tb.tail {p : Pc} {c : List Pc} (h : Tb (p :: c)) : Tb c := fun q hq => h q (by simp [hq])
theorem Tb.of {b : Int} {c : List Pc} (h : Gds b c) (hb : b ≤ 1000000000000000000000000000000) : Tb c := fun p hp => by
  obtain ⟨_, h1, h2⟩ := h p hp
  have e1 : (2 : Nat) ^ 120 = 1329227995784915872903807060280344576 := by decide
  omega
theorem xx_run {n : Str} {x : Nat} (e : tx [x] = n) {f : Nat → Int} : ∀ (m k : Nat), xx n one0 f k (List.replicate m x) = f (k + m)
  | 0, k => by simp [xx, one0]
  | m + 1, k => by
    simp only [List.replicate_succ, xx, one0, if_pos e, xx_run e m (k + 1)]
    rw [Int.zero_mul, Int.zero_add]
    congr 1
    omega
theorem xx_off {n : Str} {x y : Nat} (e : tx [x] = n) (ne : tx [y] ≠ n) {f : Nat → Int} {r : List Nat} : ∀ (m k : Nat), xx n one0 f k (List.replicate m x ++ y :: r) = 0
  | 0, k => by simp [xx, one0, ne]
  | m + 1, k => by
    simp only [List.replicate_succ, List.cons_append, xx, one0, if_pos e, xx_off e ne m (k + 1)]
    simp
theorem xx_same {n : Str} {A B : List Nat → Int} {f : Nat → Int} {x : Nat} (h : ∀ m, A (List.replicate m x) = B (List.replicate m x)) : ∀ (m k : Nat), xx n A f k (List.replicate m x) = xx n B f k (List.replicate m x)
  | 0, k => by
    have := h 0
    simp only [List.replicate_zero] at this
    simp only [List.replicate_zero, xx, this]
  | m + 1, k => by
    have := h (m + 1)
    simp only [List.replicate_succ] at this
    simp only [List.replicate_succ, xx, this, xx_same h m (k + 1)]
theorem stp_side {p : Pc} {A : List Nat → Int} {x : Nat} (ne : tx [x] ≠ p.1) (m : Nat) : stp p A (List.replicate m x) = A (List.replicate m x) := by
  cases m with
  | zero => simp [stp, xx, ch_zero]
  | succ m => simp [stp, xx, ch_zero, List.replicate_succ, ne]
def tab (A : List Nat → Int) (l : List Nat) : List Int := (List.range (l.length + 1)).map fun e => A (l.take e).reverse
theorem tab_len {A : List Nat → Int} {l : List Nat} : (tab A l).length = l.length + 1 := by simp [tab]
theorem tab_at {A : List Nat → Int} {l : List Nat} {e : Nat} (h : e ≤ l.length) : (tab A l)[e]? = some (A (l.take e).reverse) := by
  unfold tab
  rw [List.getElem?_map, List.getElem?_range (by omega)]
  rfl
theorem tab_init {l : List Nat} : (tab one0 l).map D.int = D.int 1 :: ([] ++ l.map fun _ => D.int 0) := by
  rw [List.nil_append]
  unfold tab
  rw [List.range_succ_eq_map, List.map_cons, List.map_cons, List.map_map, List.map_map]
  congr 1
  apply List.ext_getElem
  · simp
  · intro i h1 h2
    simp at h1 h2
    simp only [List.getElem_map, List.getElem_range, Function.comp]
    have : (l.take (i + 1)).reverse ≠ [] := by
      simp
      intro z
      rw [z] at h2
      simp at h2
    cases q : (l.take (i + 1)).reverse with
    | nil => exact absurd q this
    | cons x r => rfl
theorem tab_of {A : List Nat → Int} {l : List Nat} {ts : List Int} (hl : ts.length = l.length + 1) (h : ∀ e, e ≤ l.length → ts[e]? = some (A (l.take e).reverse)) : ts = tab A l := by
  apply List.ext_getElem?
  intro i
  by_cases hi : i ≤ l.length
  · rw [h i hi, tab_at hi]
  · rw [List.getElem?_eq_none (by omega), List.getElem?_eq_none (by rw [tab_len]; omega)]
/-! ### rows with unlike neighbours -/
theorem lead0 {x : Nat} {r : List Nat} : lead (tx [x]) r = 0 ↔ r.head? ≠ some x := by
  cases r with
  | nil => simp [lead]
  | cons y r =>
    unfold lead
    by_cases e : y = x
    · subst e; simp
    · have : ¬ tx [y] = tx [x] := fun z => e (by simpa using tx_inj.mp z)
      simp [this, e]
theorem RL1_cons {x : Nat} {r : List Nat} : RL 1 (x :: r) ↔ r.head? ≠ some x ∧ RL 1 r := by
  rw [← lead0]
  show lead (tx [x]) r + 1 ≤ 1 ∧ _ ↔ _
  constructor
  · exact fun h => ⟨by omega, h.2⟩
  · exact fun h => ⟨by omega, h.2⟩
theorem RL1_snoc {x : Nat} : ∀ {r : List Nat}, RL 1 r → (∀ y, r.getLast? = some y → y ≠ x) → RL 1 (r ++ [x])
  | [], _, _ => RL1_cons.mpr ⟨by simp, trivial⟩
  | [y], h, g => RL1_cons.mpr ⟨by have := g y rfl; simp; exact fun z => this z.symm, RL1_cons.mpr ⟨by simp, trivial⟩⟩
  | y :: z :: r, h, g => by
    have h' := RL1_cons.mp h
    exact RL1_cons.mpr ⟨by simpa using h'.1, RL1_snoc (r := z :: r) h'.2 fun w hw => g w (by rw [List.getLast?_cons_cons]; exact hw)⟩
theorem RL1_rev : ∀ {r : List Nat}, RL 1 r → RL 1 r.reverse
  | [], _ => trivial
  | x :: r, h => by
    have h' := RL1_cons.mp h
    rw [List.reverse_cons]
    refine RL1_snoc (RL1_rev h'.2) fun y hy => ?_
    rw [List.getLast?_reverse] at hy
    intro z
    subst z
    exact h'.1 hy
/-- one of each nail at most -/
def stq (p : Pc) (A : List Nat → Int) : List Nat → Int
  | [] => A []
  | x :: r => A (x :: r) + if tx [x] = p.1 then A r * p.2 else 0
theorem stp_stq {p : Pc} {A : List Nat → Int} {r : List Nat} (h : RL 1 r) : stp p A r = stq p A r := by
  cases r with
  | nil => show A [] * ch p.2 0 = A []; rw [ch_zero, Int.mul_one]
  | cons x r =>
    show A (x :: r) * ch p.2 0 + (if tx [x] = p.1 then xx p.1 A (ch p.2) 1 r else 0) = A (x :: r) + if tx [x] = p.1 then A r * p.2 else 0
    rw [ch_zero, Int.mul_one]
    split
    · rename_i e
      have h' := RL1_cons.mp h
      rw [xx_rs, ch_one]
      have : rs p.1 A (ch p.2) 1 r = 0 := by
        cases r with
        | nil => rfl
        | cons y r =>
          rw [rs_cons, if_neg]
          intro z
          rw [← e] at z
          have : y = x := by simpa using tx_inj.mp z
          exact h'.1 (by rw [this]; rfl)
      rw [this, Int.add_zero]
    · rfl
theorem wy_nil (l : List Nat) : wy [] l = one0 l := rfl
theorem wy_cons1 {p : Pc} {c : List Pc} {x : Nat} {r : List Nat} (h : RL 1 (x :: r)) : wy (p :: c) (x :: r) = wy c (x :: r) + if tx [x] = p.1 then wy c r * p.2 else 0 := stp_stq (A := wy c) h
theorem wy_empty : ∀ c : List Pc, wy c [] = 1
  | [] => rfl
  | p :: c => by
    show stp p (wy c) [] = 1
    rw [stp_stq (r := []) trivial]
    exact wy_empty c
theorem wy_long : ∀ {c : List Pc} {l : List Nat}, RL 1 l → c.length < l.length → wy c l = 0
  | [], [], _, h => by simp at h
  | [], _ :: _, _, _ => rfl
  | p :: c, [], _, h => by simp at h
  | p :: c, x :: l, hr, h => by
    simp only [List.length_cons] at h
    rw [wy_cons1 hr, wy_long (c := c) hr (by simp; omega), wy_long (c := c) (RL1_cons.mp hr).2 (by omega)]
    simp
theorem lts_RL : ∀ {w : List Pc}, Nl w → Red w → RL 1 (lts w)
  | [], _, _ => trivial
  | [p], h, _ => by
    obtain ⟨x, hx, _⟩ := h p (by simp)
    rw [lts_cons hx]
    exact RL1_cons.mpr ⟨by simp [lts], trivial⟩
  | p :: q :: w, h, hr => by
    obtain ⟨x, hx, _⟩ := h p (by simp)
    obtain ⟨y, hy, _⟩ := h q (by simp)
    have ih := lts_RL h.tail hr.2.2
    rw [lts_cons hx]
    refine RL1_cons.mpr ⟨?_, ih⟩
    rw [lts_cons hy]
    intro z
    have : y = x := by simpa using z
    exact hr.2.1 (by rw [hx, hy, this])
/-- the row of runs stands in them as often as the turns' product -/
theorem wy_runs : ∀ {w : List Pc}, Nl w → Red w → wy w (lts w) = prd w
  | [], _, _ => rfl
  | p :: w, h, hr => by
    obtain ⟨x, hx, _⟩ := h p (by simp)
    have hrl := lts_RL h hr
    rw [lts_cons hx] at hrl ⊢
    rw [wy_cons1 hrl, wy_long hrl (by rw [List.length_cons, lts_len h.tail]; omega), if_pos hx.symm, wy_runs h.tail hr.tail]
    show 0 + prd w * p.2 = p.2 * prd w
    grind
theorem prd_bd : ∀ {c : List Pc}, Tb c → (prd c).natAbs ≤ 2 ^ (c.length * 120)
  | [], _ => by decide
  | p :: c, h => by
    show (p.2 * prd c).natAbs ≤ _
    rw [Int.natAbs_mul, List.length_cons, Nat.succ_mul, Nat.pow_add, Nat.mul_comm]
    exact Nat.mul_le_mul (prd_bd h.tail) (h p (by simp))
theorem prd_app (a b : List Pc) : prd (a ++ b) = prd a * prd b := by
  induction a with
  | nil => show prd b = 1 * prd b; omega
  | cons p a ih => show p.2 * prd (a ++ b) = p.2 * prd a * prd b; rw [ih, Int.mul_assoc]
theorem Tb.nf {b : Int} {c : List Pc} (h : Gds b c) (b0 : 0 ≤ b) (hb : b ≤ 1000000000000000000000000000000) (hl : c.length ≤ 100000) : Tb (nf c) := fun p hp => by
  have e1 : (2 : Nat) ^ 120 = 1329227995784915872903807060280344576 := by decide
  have := nf_bd b0 (fun p hp => (h p hp).2) p hp
  have hm : (c.length : Int) * b ≤ 100000 * 1000000000000000000000000000000 := Int.mul_le_mul (by omega) hb b0 (by omega)
  omega
/-! ### the shortest end of a row that stands in a cord -/
def fndL (b one other : List Pc) (row : List Nat) : List Nat → D
  | [] => .non
  | s :: r => if wy b (row.drop (row.length - s)) = 0 then fndL b one other row r else .tup [.str (tx (row.drop (row.length - s))), .int (wy one (row.drop (row.length - s))), .int (wy other (row.drop (row.length - s)))]
def told (one other : List Pc) : D := fndL (nf (con one ++ other)) one other (lts (nf (con one ++ other))) ((List.range (lts (nf (con one ++ other))).length).map (· + 1))
theorem wyA_low {B : List Nat → Int} {e : List Nat} (hr : RL 1 e) (hB : ∀ s, s <:+ e → s ≠ e → B s = one0 s) : ∀ (c : List Pc) (s : List Nat), s <:+ e → s ≠ e → wyA c B s = wy c s
  | [], s, h1, h2 => hB s h1 h2
  | p :: c, [], h1, h2 => by
    rw [wy_empty]
    show stp p (wyA c B) [] = 1
    rw [stp_stq (r := []) trivial]
    show wyA c B [] = 1
    rw [wyA_low hr hB c [] h1 h2, wy_empty]
  | p :: c, x :: r, h1, h2 => by
    have hs : RL 1 (x :: r) := by
      obtain ⟨t, ht⟩ := h1
      have := RL.drop t.length hr
      rw [← ht, List.drop_left] at this
      exact this
    have hr1 : r <:+ e := (List.suffix_cons x r).trans h1
    have hr2 : r ≠ e := fun z => by
      have := h1.length_le
      rw [← z, List.length_cons] at this
      omega
    rw [wy_cons1 hs]
    show stp p (wyA c B) (x :: r) = _
    rw [stp_stq hs]
    show wyA c B (x :: r) + (if tx [x] = p.1 then wyA c B r * p.2 else 0) = _
    rw [wyA_low hr hB c _ h1 h2, wyA_low hr hB c r hr1 hr2]
theorem wyA_top {B : List Nat → Int} {x : Nat} {r : List Nat} (hr : RL 1 (x :: r)) (hB : ∀ s, s <:+ (x :: r) → s ≠ x :: r → B s = one0 s) : ∀ c : List Pc, wyA c B (x :: r) = wy c (x :: r) + B (x :: r)
  | [] => by show B (x :: r) = 0 + B (x :: r); omega
  | p :: c => by
    rw [wy_cons1 hr]
    show stp p (wyA c B) (x :: r) = _
    rw [stp_stq hr]
    show wyA c B (x :: r) + (if tx [x] = p.1 then wyA c B r * p.2 else 0) = _
    rw [wyA_top hr hB c, wyA_low hr hB c r (List.suffix_cons x r) (fun z => by have := congrArg List.length z; simp at this)]
    omega
theorem told_nf (one other : List Pc) : nf (one ++ nf (con one ++ other)) = nf other := by
  rw [← nf_appR, ← List.append_assoc]
  have := (eqv_con one).app (Eqv.refl other)
  simpa using this.nf
/-- what is told of two cords: none just where they are one, else unlike numbers -/
theorem fnd_ne {one other : List Pc} (hn : Nl one) (hm : Nl other) : ∀ (ss : List Nat) (k : Nat), ss = ((List.range (lts (nf (con one ++ other))).length).drop k).map (· + 1) → (∀ s, s <:+ lts (nf (con one ++ other)) → s.length ≤ k → wy (nf (con one ++ other)) s = one0 s) →
    fndL (nf (con one ++ other)) one other (lts (nf (con one ++ other))) ss = .non ∧ (∀ s, s <:+ lts (nf (con one ++ other)) → wy (nf (con one ++ other)) s = one0 s) ∨
    ∃ (e : List Nat) (i j : Int), fndL (nf (con one ++ other)) one other (lts (nf (con one ++ other))) ss = .tup [.str (tx e), .int i, .int j] ∧ i ≠ j ∧ e <:+ lts (nf (con one ++ other)) := fun ss k hk hz => by
  have hb : RL 1 (lts (nf (con one ++ other))) := lts_RL (hn.con.app hm).nf (nf_red _)
  generalize hrow : lts (nf (con one ++ other)) = row at hk hz hb ⊢
  induction ss generalizing k with
  | nil =>
    left
    refine ⟨rfl, fun s hs => hz s hs ?_⟩
    have h1 := congrArg List.length hk
    simp at h1
    have := hs.length_le
    omega
  | cons s ss ih =>
    have hlt : k < row.length := by
      have h1 := congrArg List.length hk
      simp at h1
      omega
    rw [List.drop_eq_getElem_cons (by simpa using hlt), List.map_cons] at hk
    obtain ⟨h1, h2⟩ := List.cons.inj hk
    simp at h1
    subst h1
    unfold fndL
    split
    · rename_i h0
      refine ih (k + 1) h2 fun s hs hl => ?_
      rcases Nat.lt_or_ge s.length (k + 1) with w | w
      · exact hz s hs (by omega)
      · have es : s = row.drop (row.length - (k + 1)) := by
          rw [List.suffix_iff_eq_drop] at hs
          rw [hs]
          congr 1
          have := congrArg List.length hs
          simp at this
          omega
        rw [es, h0]
        cases hd : row.drop (row.length - (k + 1)) with
        | nil =>
          have := congrArg List.length hd
          simp at this
          omega
        | cons x r => rfl
    · rename_i h0
      right
      refine ⟨_, _, _, rfl, ?_, List.drop_suffix _ _⟩
      have hsuf : row.drop (row.length - (k + 1)) <:+ row := List.drop_suffix _ _
      have hlen : (row.drop (row.length - (k + 1))).length = k + 1 := by simp; omega
      have hre : RL 1 (row.drop (row.length - (k + 1))) := hb.drop _
      generalize row.drop (row.length - (k + 1)) = e at h0 hsuf hlen hre ⊢
      cases e with
      | nil => simp at hlen
      | cons x r =>
        have hB : ∀ s, s <:+ (x :: r) → s ≠ x :: r → wy (nf (con one ++ other)) s = one0 s := fun s hs hne => by
          refine hz s (hs.trans hsuf) ?_
          have l1 := hs.length_le
          have l2 : s.length ≠ (x :: r).length := fun z => hne (hs.eq_of_length z)
          omega
        have key : wy other (x :: r) = wy one (x :: r) + wy (nf (con one ++ other)) (x :: r) := by
          rw [← wyA_top hre hB one]
          show wy other _ = wyA one (wyA (nf (con one ++ other)) one0) _
          rw [← wyA_app]
          show wy other _ = wy (one ++ nf (con one ++ other)) _
          rw [wy_congr (told_nf one other)]
        omega
theorem told_same (one : List Pc) : told one one = .non := by
  unfold told
  rw [nf_con']
  rfl
theorem rng11 {n : Nat} : (rng 1 1 n).map D.int = ((List.range n).map (· + 1)).map fun s : Nat => D.int s := by
  unfold rng
  rw [List.map_map, List.map_map]
  apply List.map_congr_left
  intro i _
  simp only [Function.comp]
  congr 1
  omega
theorem Tb.app {c d : List Pc} (h : Tb c) (g : Tb d) : Tb (c ++ d) := fun p hp => (List.mem_append.mp hp).elim (h p) (g p)
theorem Tb.con {c : List Pc} (h : Tb c) : Tb (con c) := fun q hq => by
  obtain ⟨p, hp, rfl⟩ := List.mem_map.mp hq
  have := h p (List.mem_reverse.mp hp)
  show (-p.2).natAbs ≤ 2 ^ 120
  rw [Int.natAbs_neg]
  exact this
theorem lts_ok : ∀ {c : List Pc}, Nl c → ∀ x ∈ lts c, 97 ≤ x ∧ x ≤ 122
  | [], _, x, h => by simp [lts] at h
  | p :: c, hn, x, h => by
    obtain ⟨y, hy, h1, h2⟩ := hn p (by simp)
    rw [lts_cons hy] at h
    rcases List.mem_cons.mp h with z | z
    · rw [z]; exact ⟨h1, h2⟩
    · exact lts_ok hn.tail x z
theorem told_cases {one other : List Pc} (hn : Nl one) (hm : Nl other) : told one other = .non ∨ ∃ (e : List Nat) (i j : Int), told one other = .tup [.str (tx e), .int i, .int j] ∧ i ≠ j ∧ PyData.strOk (tx e) = true := by
  rcases fnd_ne hn hm _ 0 rfl (fun s _ hl => by
    have : s = [] := List.length_eq_zero_iff.mp (by omega)
    rw [this, wy_empty]; rfl) with h | ⟨e, i, j, h1, h2, h3⟩
  · exact .inl h.1
  · exact .inr ⟨e, i, j, h1, h2, tx_ok fun x hx => lts_ok (hn.con.app hm).nf x (h3.subset hx)⟩
end NL

/-! < of data; sorted of data, by an own key too. -/
namespace NL
open PySem PySem.Spec L2
open PyProof.Rows hiding St
/-! ### the order of data -/
def py (d : D) : PyData := toPy 20 d
def dlt (d e : D) : Bool := PySem.W.dataLt (py d) (py e)
def dle (d e : D) : Bool := !dlt e d
def lik (d e : D) : Prop := PySem.W.alike (py d) (py e) = true
def sorD (xs : List D) : List D := xs.mergeSort dle
/-- what can be sorted -/
def Srt1 (xs : List D) : Prop := (∀ x ∈ xs, nb 20 x = true) ∧ (∀ x ∈ xs, ∀ y ∈ xs, lik x y) ∧ PySem.W.Sortable (xs.map py)
section
variable {X : Cx}
theorem op_ltD (hu : X.A.units + 64 < cLine) : OpR X (compareOp .Lt) (fun x y H Q => ∃ d e, Dp X.K H x d ∧ Dp X.K H y e ∧ PySem.W.alike d e = true ∧ d ≠ .none ∧ d.depth ≤ 40 ∧ Q (.bl (PySem.W.dataLt d e)) H) := by
  intro pins s σ H x y v u Q I rx ry h
  obtain ⟨d, e, hd, he, ha, hn, hz, q⟩ := h
  obtain ⟨as, r1⟩ := Dp.reads I d x v hd rx
  obtain ⟨bs, r2⟩ := Dp.reads I e y u he ry
  exact PySem.W.rcLt_alike d e X.A s v u as bs r1 r2 ha hn (by omega) X.prog X.w _ _ ⟨.bl _, H, I, rfl, q⟩
theorem py_depth {d : D} (h : nb 20 d = true) : (py d).depth ≤ 20 := (nb_shape 20 d h).2
end
variable [KC]
section
variable {X : Cx}
def gLtD : D → D → (D → Prop) → Prop := fun d e Q => (nb 20 d = true ∧ nb 20 e = true) ∧ lik d e ∧ isN d = false ∧ Q (.bl (dlt d e))
theorem py_non {d : D} (h : nb 20 d = true) (n : isN d = false) : py d ≠ .none := by
  cases d <;> simp_all [nb, isN, py, toPy]
theorem dLtD {k : Nat} (hr : Room k X.A) (hK : X.K = KC.K := by rfl) : OpD X (compareOp .Lt) gLtD := by
  refine ⟨_, op_ltD hr.units, fun d e Q h H S u v Q' sh hd he k => ?_⟩
  obtain ⟨⟨n1, n2⟩, h1, h2, q⟩ := h
  exact ⟨_, _, nb_dp 20 _ u n1 (hd.full sh), nb_dp 20 _ v n2 (he.full sh), h1, py_non n1 h2, Nat.le_trans (py_depth n1) (by decide), k _ _ H S q (.refl sh) .b⟩
/-! ### sorted(xs) -/
omit [KC] in
theorem dpAll_each {pins : List (Addr × Obj)} {σ : L2.St} {H : Hp} {s : Shared} (I : Inv X pins σ H s) : ∀ (ds : List D) (vs : List V) (us : List Value), (∀ d ∈ ds, nb 20 d = true) → (∀ (i : Nat) (d : D) (v : V), ds[i]? = some d → vs[i]? = some v → Dp X.K H v (py d)) → Vals vs us → ds.length = vs.length →
    PySem.W.EachIs (fun u d => ∃ as, Reads s.heap u (py d) as) us ds
  | [], [], us, _, _, r, _ => by cases r; exact .nil
  | [], _ :: _, _, _, _, _, e => by simp at e
  | _ :: _, [], _, _, _, _, e => by simp at e
  | d :: ds, v :: vs, _, hn, hd, .cons r t, e => by
    obtain ⟨as, z⟩ := Dp.reads I (py d) v _ (hd 0 d v rfl rfl) r
    exact .cons ⟨as, z⟩ (dpAll_each I ds vs _ (fun d m => hn d (by simp [m])) (fun i d v h1 h2 => hd (i + 1) d v (by simpa using h1) (by simpa using h2)) t (by simpa using e))
omit [KC] in
/-- the values V of an arrangement -/
theorem each_back : ∀ {R : Value → (V × D) → Prop} {us : List Value} {ps : List (V × D)}, PySem.W.EachIs R us ps → (∀ u p, R u p → RelV p.1 u) → Vals (ps.map (·.1)) us
  | _, _, _, .nil, _ => .nil
  | _, _, _, .cons h t, f => .cons (f _ _ h) (each_back t f)
def rSortedD (K : PySem.W.Frag) : List V → Hp → VK → Prop := fun vs H Q => ∃ (a : Addr) (xs : List V) (ds : List D), vs = [V.ref a] ∧ SqL K H a xs ∧ xs.length = ds.length ∧ Srt1 ds ∧
  (∀ (i : Nat) (d : D) (v : V), ds[i]? = some d → xs[i]? = some v → Dp K H v (py d)) ∧
  ∀ p, H p = none → Q (.ref p) (upd H p (.lst (((xs.zip ds).mergeSort fun a b => dle a.2 b.2).map (·.1))))
omit [KC] in
theorem cr_sortedD {k : Nat} (hr : Room k X.A) : CallR X (.builtin "sorted") (rSortedD X.K) := by
  intro pins s σ H vs us Q I r h
  obtain ⟨a, xs, ds, rfl, hs, hl, ⟨hn, hal, hso⟩, hd, q⟩ := h
  obtain ⟨its, rv, hL, hz⟩ := I.list hs
  rw [Vals.ref1 r]
  have e1 := dpAll_each I ds xs its hn hd rv hl.symm
  have il : its.length = ds.length := by rw [← rv.length]; exact hl
  have e2 : PySem.W.EachIs (fun u (p : V × D) => RelV p.1 u ∧ ∃ as, Reads s.heap u (py p.2) as) its (xs.zip ds) := by
    refine PySem.W.EachIs.of_zip (by simp; omega) fun p hp => ?_
    obtain ⟨i, hi⟩ := List.mem_iff_getElem?.mp hp
    rw [List.getElem?_zip_eq_some] at hi
    obtain ⟨h1, h2⟩ := hi
    rw [List.getElem?_zip_eq_some] at h2
    obtain ⟨u, hu, ru⟩ := rv.get h2.1
    rw [h1] at hu
    cases hu
    exact ⟨ru, e1.zip (p.1, p.2.2) (List.mem_iff_getElem?.mpr ⟨i, by rw [List.getElem?_zip_eq_some]; exact ⟨h1, h2.2⟩⟩)⟩
  have em : (xs.zip ds).map (fun p => py p.2) = ds.map py := by
    rw [show (fun p : V × D => py p.2) = py ∘ Prod.snd from rfl, ← List.map_map, List.map_snd_zip (by omega)]
  have hm : ∀ p ∈ xs.zip ds, nb 20 p.2 = true := fun p hp => hn _ (List.of_mem_zip (a := p.1) (b := p.2) hp).2
  refine PySem.W.sorted_data (bs := xs.zip ds) (enc := fun p => py p.2) hL.isList e2 (e2.mono fun _ _ z => z.2) ?_ (by rw [em]; exact hso) (by simp; omega) (fun p hp => ?_) fun out ho h1 => ?_
  · rw [em]
    intro x hx y hy
    obtain ⟨x, mx, rfl⟩ := List.mem_map.mp hx
    obtain ⟨y, my, rfl⟩ := List.mem_map.mp hy
    exact hal x mx y my
  · have := py_depth (hm p hp)
    have := hr.units
    omega
  · have hv := each_back h1 fun _ _ z => z.1
    have es : PySem.W.dataLe false (fun p : V × D => py p.2) = fun a b => dle a.2 b.2 := rfl
    rw [es] at hv
    obtain ⟨ep, he'⟩ := PyProof.Rows.sortedAll_at s.heap its (List.toArray out)
    have hlen : ((((xs.zip ds).mergeSort fun a b => dle a.2 b.2).map (·.1))).length ≤ sizeLine := by simp; omega
    exact ⟨.ref _, upd H (s.heap.objs.size + 1) (.lst (((xs.zip ds).mergeSort fun a b => dle a.2 b.2).map (·.1))), I.laid (t' := s.toks) (fun _ _ => PyProof.Rows.sortedAll_old) (Nat.le_succ _) ⟨hlen, out, ep, hv, he'⟩, rfl, q _ (I.hok.fresh (Nat.le_succ _))⟩
def gSorted : List D → (List D → Prop) → Prop
  | [.lst xs], Q => Srt1 xs ∧ Q (sorD xs)
  | _, _ => False
omit [KC] in
theorem zip_sort (xs : List V) (ds : List D) (h : xs.length = ds.length) : ((xs.zip ds).mergeSort fun a b => dle a.2 b.2).map (·.2) = sorD ds := by
  unfold sorD
  rw [PySem.W.sort_maps (s := dle) (fun p : V × D => p.2) fun _ _ _ _ => rfl, List.map_snd_zip (by omega)]
theorem dats_perm {S : Hp} : ∀ {ps qs : List (V × D)}, ps.Perm qs → Dats S (qs.map (·.2)) (qs.map (·.1)) → Dats S (ps.map (·.2)) (ps.map (·.1)) := by
  have all : ∀ (qs : List (V × D)), Dats S (qs.map (·.2)) (qs.map (·.1)) ↔ ∀ p ∈ qs, Dat S p.2 p.1 := fun qs => by
    induction qs with
    | nil => simp; exact .nil
    | cons p qs ih =>
      constructor
      · intro h
        simp only [List.map_cons] at h
        unfold Dats at h
        obtain ⟨v, r, e, h1, h2⟩ := h
        cases e
        intro q hq
        rcases List.mem_cons.mp hq with z | z
        · rw [z]; exact h1
        · exact ih.mp h2 q z
      · intro h
        exact Dats.cons (h p (by simp)) (ih.mpr fun q hq => h q (by simp [hq]))
  intro ps qs hp h
  rw [all] at h ⊢
  exact fun p m => h p (hp.mem_iff.mp m)
theorem cSorted {k : Nat} (hr : Room k X.A) (hK : X.K = KC.K := by rfl) : CalF X (.builtin "sorted") gSorted := by
  refine ⟨_, cr_sortedD hr, fun ds Q h H S vs Q' sh hd k => ?_⟩
  unfold gSorted at h
  split at h
  · rename_i xs
    obtain ⟨hx, q⟩ := h
    obtain ⟨v, rfl, hz⟩ := hd.one
    obtain ⟨a, ws, rfl, r, z⟩ := hz
    refine ⟨a, ws, xs, rfl, .of r, z.len, hx, fun i d v h1 h2 => ?_, fun p hp => ?_⟩
    · obtain ⟨y, hy, hd⟩ := z.get h1
      rw [h2] at hy
      cases hy
      exact nb_dp 20 d v (hx.1 d (List.mem_of_getElem? h1)) (Dat.mono sh _ _ hd)
    · refine k (sorD xs) _ p q hp ?_
      rw [← zip_sort ws xs z.len]
      refine dats_perm (List.mergeSort_perm _ _) ?_
      have l := z.len
      rw [List.map_snd_zip (by omega), List.map_fst_zip (by omega)]
      exact z
  · exact h.elim
/-! ### a text in a list or tuple of texts -/
def strD : D → Bool
  | .str _ => true
  | _ => false
def hasS (s : Str) (xs : List D) : Bool := xs.any fun d => match d with
  | .str t => decide (t = s)
  | _ => false
theorem inV_str {S : Hp} {s : Str} : ∀ {xs : List D} {vs : List V}, Dats S xs vs → xs.all strD = true → vs.all flatV = true ∧ inV (.str s) vs = hasS s xs
  | [], vs, h, _ => by unfold Dats at h; subst h; exact ⟨rfl, rfl⟩
  | x :: xs, vs, h, f => by
    unfold Dats at h
    obtain ⟨v, r, rfl, h1, h2⟩ := h
    rw [List.all_cons, Bool.and_eq_true] at f
    obtain ⟨i1, i2⟩ := inV_str (s := s) h2 f.2
    cases x with
    | str t =>
      unfold Dat at h1
      subst h1
      refine ⟨by rw [List.all_cons, i1]; rfl, ?_⟩
      unfold inV hasS at i2 ⊢
      rw [List.any_cons, List.any_cons, i2]
      congr 1
    | _ => exact absurd (show false = true from f.1) (by decide)
def gInT (neg : Bool) : D → D → (D → Prop) → Prop
  | .str s, .lst xs, Q => xs.all strD = true ∧ Q (.bl (neg ^^ hasS s xs))
  | .str s, .tup xs, Q => xs.all strD = true ∧ Q (.bl (neg ^^ hasS s xs))
  | _, _, _ => False
theorem dInT (hK : X.K = KC.K := by rfl) : OpD X (compareOp .In) (gInT false) := by
  refine ⟨_, op_in_seq, fun d e Q h H S u v Q' sh hd he k => ?_⟩
  unfold gInT at h
  split at h
  · obtain ⟨f, q⟩ := h
    cases hd.s
    obtain ⟨a, ws, rfl, r, z⟩ := he
    obtain ⟨i1, i2⟩ := inV_str z f
    exact ⟨a, ws, rfl, .inl (.of r), rfl, i1, by rw [i2]; simpa using k _ _ H S q (.refl sh) .b⟩
  · obtain ⟨f, q⟩ := h
    cases hd.s
    simp only [BDat, Dat] at he
    obtain ⟨a, ws, rfl, r, z⟩ := he
    obtain ⟨i1, i2⟩ := inV_str z f
    exact ⟨a, ws, rfl, .inr (.of (sh _ _ r)), rfl, i1, by rw [i2]; simpa using k _ _ H S q (.refl sh) .b⟩
  · exact h.elim
theorem dNotInT (hK : X.K = KC.K := by rfl) : OpD X (compareOp .NotIn) (gInT true) := by
  refine ⟨_, op_notIn_seq, fun d e Q h H S u v Q' sh hd he k => ?_⟩
  unfold gInT at h
  split at h
  · obtain ⟨f, q⟩ := h
    cases hd.s
    obtain ⟨a, ws, rfl, r, z⟩ := he
    obtain ⟨i1, i2⟩ := inV_str z f
    exact ⟨a, ws, rfl, .inl (.of r), rfl, i1, by rw [i2]; simpa using k _ _ H S q (.refl sh) .b⟩
  · obtain ⟨f, q⟩ := h
    cases hd.s
    simp only [BDat, Dat] at he
    obtain ⟨a, ws, rfl, r, z⟩ := he
    obtain ⟨i1, i2⟩ := inV_str z f
    exact ⟨a, ws, rfl, .inr (.of (sh _ _ r)), rfl, i1, by rw [i2]; simpa using k _ _ H S q (.refl sh) .b⟩
  · exact h.elim
/-! ### t + u, tuples, none of them empty -/
def gAddT : D → D → (D → Prop) → Prop
  | .tup xs, .tup ys, Q => (xs ≠ [] ∧ ys ≠ [] ∧ xs.length + ys.length ≤ sizeLine) ∧ Q (.tup (xs ++ ys))
  | _, _, _ => False
theorem dCatT (hK : X.K = KC.K := by rfl) : OpD X (binaryOp .Add) gAddT := by
  refine ⟨_, op_catT, fun d e Q h H S u v Q' sh hd he k => ?_⟩
  unfold gAddT at h
  split at h
  · obtain ⟨⟨n1, n2, hl⟩, q⟩ := h
    simp only [BDat, Dat] at hd he
    obtain ⟨a, vs, rfl, r1, z1⟩ := hd
    obtain ⟨b, ws, rfl, r2, z2⟩ := he
    have l1 := z1.len
    have l2 := z2.len
    refine ⟨a, b, vs, ws, rfl, rfl, .of (sh _ _ r1), .of (sh _ _ r2), fun e => n1 (List.eq_nil_of_length_eq_zero (by rw [← l1, e]; rfl)), by omega, fun e => absurd (List.eq_nil_of_length_eq_zero (by rw [← l2, e]; rfl)) n2, fun _ p hp => ?_⟩
    obtain ⟨g, y⟩ := lay_tup sh hp (z1.app z2)
    exact k _ _ _ _ q g y
  · exact h.elim
/-! ### a new list made while a slot's own list is read as shared -/
theorem Rep.frzAt {F : Fr} {ρ : Ev} {σ : L2.St} {H S : Hp} {i : Nat} {c : Cn} {p : Addr} {o : HO} (r : Rep F ρ σ H S) (h : ρ[i]? = some (.own false c)) (e1 : σ[i]? = some (some (.ref p))) (e2 : S p = none) (e3 : H p = some o) (e4 : CnOk S c o) (h0 : F.H0 p = none) :
    Rep F (ρ.set i (.fz c.d)) σ H (upd S p o) := by
  have hl : i < ρ.length := (List.getElem?_eq_some_iff.mp h).1
  have ss : Same S (upd S p o) := same_upd e2
  refine ⟨⟨r.fg.hh, r.fg.al, r.fg.ss.trans ss, same_upd2 r.fg.sh e3, fun a ha => ?_, r.fg.ft, r.fg.tb.frz e3 e4.ntb.1⟩, by simp [r.len], fun j sl e => ?_, fun j k m1 m2 c1 c2 n q1 q2 => ?_⟩
  · rw [upd_ne (fun z => ha (by rw [z]; exact h0))]
    exact r.fg.nw a ha
  · by_cases z : i = j
    · subst z
      rw [List.getElem?_set_self hl] at e
      cases e
      exact ⟨.ref p, e1, CnOk.dat upd_same (e4.mono ss)⟩
    · rw [List.getElem?_set_ne z] at e
      have q := r.at' j sl e
      cases sl with
      | un => trivial
      | fz d =>
        obtain ⟨v, f1, f2⟩ := q
        exact ⟨v, f1, Dat.mono ss d v f2⟩
      | own m3 c3 =>
        obtain ⟨p3, o3, f1, f2, f3, f4, f5⟩ := q
        refine ⟨p3, o3, f1, ?_, f3, f4.mono ss, f5⟩
        rw [upd_ne (fun z3 => r.dist i j false m3 c c3 z h e (by rw [e1, f1, z3]))]
        exact f2
  · have conv : ∀ (l : Nat) (m4 : Bool) (c4 : Cn), (ρ.set i (.fz c.d))[l]? = some (.own m4 c4) → ρ[l]? = some (.own m4 c4) := fun l m4 c4 q => by
      by_cases z : i = l
      · subst z
        rw [List.getElem?_set_self hl] at q
        cases q
      · rw [List.getElem?_set_ne z] at q
        exact q
    exact r.dist j k _ _ _ _ n (conv _ _ _ q1) (conv _ _ _ q2)
def wThaw (i : Nat) (wl : WL) : WL := fun x ρ Q => match ρ[i]? with
  | some (.own false c) => wl x (ρ.set i (.fz c.d)) fun xs => nls xs = true ∧ Q xs
  | some (.fz _) => wl x ρ Q
  | _ => False
theorem df_thaw {E : XK} {e : Expr} {wl : WL} (i : Nat) (h : DF X E e wl) : DF X E e (wThaw i wl) := by
  obtain ⟨t, p, s⟩ := h.ex
  refine ⟨t, p, fun x ρ Q hw F σ H S Q' rp ex k => ?_⟩
  unfold wThaw at hw
  split at hw
  · rename_i c hi
    obtain ⟨p, o, e1, e2, e3, e4, _, e6⟩ := rp.own hi
    have nt : ∀ xs, o ≠ .tup xs := fun xs z => by
      subst z
      cases c with
      | lst ys => obtain ⟨vs, z, _⟩ := e4; cases z
      | dct ks ys => obtain ⟨vs, z, _⟩ := e4; cases z
      | obj _ _ ys => obtain ⟨dx, vs, z, _⟩ := e4; cases z
    have eP : upd S p o = plusS H S [.ref p] := by
      funext a
      unfold plusS upd
      by_cases z : a = p
      · subst z
        rw [if_pos rfl, if_pos ⟨e2, by simp [tops], o, e3, nt, e4.ntb.1⟩, e3]
      · rw [if_neg z, if_neg (fun w => by have := w.2.1; simp [tops] at this; exact z this.symm)]
    have r2 := rp.frzAt hi e1 e2 e3 e4 (e6 rfl)
    rw [eP] at r2
    have x2 : ExOk X.mg E x H (plusS H S [.ref p]) := fun n C H' S' a b g => ex n C H' _ a b (minus_grow rp.sh g)
    refine s x _ _ hw F σ H _ _ r2 x2 fun xs q vs H' S' hq g h0 h1 h2 h3 => ?_
    refine k xs q vs H' (minusS H S S' [.ref p]) hq.2 (minus_grow rp.sh g) h0 ?_ h2 (minus_dats g xs vs hq.1 h3)
    unfold minusS
    split
    · rfl
    · exact h1
  · exact s x ρ Q hw F σ H S Q' rp ex k
  · exact hw.elim
/-! ### max(xs), min(xs) of whole numbers -/
def gMaxL : List D → (D → Prop) → Prop
  | [.lst xs], Q => ∃ ns : List Int, xs = ns.map D.int ∧ 0 < ns.length ∧ ∀ m, m ∈ ns → (∀ y ∈ ns, y ≤ m) → Q (.int m)
  | _, _ => False
theorem cMaxL (hc : X.calm = true) (hK : X.K = KC.K := by rfl) : CalD X (.builtin "max") gMaxL := by
  refine ⟨_, cr_max hc, fun ds Q h H S vs Q' sh hd k => ?_⟩
  unfold gMaxL at h
  split at h
  · obtain ⟨ns, rfl, hl, q⟩ := h
    obtain ⟨v, rfl, hz⟩ := hd.one
    obtain ⟨a, ws, rfl, r, z⟩ := hz
    have := z.ofInts
    subst this
    exact ⟨a, ns, rfl, .of r, hl, fun m h1 h2 => k _ _ H S (q m h1 h2) (.refl sh) .i⟩
  · exact h.elim
end
end NL

/-! Moves. -/
namespace NL
open PySem PySem.Spec L2
open PyProof.Rows hiding St
/-- a cord of some nails -/
def On (l : List Nat) (c : List Pc) : Prop := ∀ p ∈ c, ∃ y ∈ l, p.1 = tx [y]
theorem on_app {l : List Nat} {a b : List Pc} (h : On l a) (g : On l b) : On l (a ++ b) := fun p hp => (List.mem_append.mp hp).elim (h p) (g p)
theorem on_con {l : List Nat} {a : List Pc} (h : On l a) : On l (con a) := fun p hp => by
  obtain ⟨q, hq, rfl⟩ := List.mem_map.mp hp
  exact h q (List.mem_reverse.mp hq)
theorem bd_app {b : Int} {a c : List Pc} (h : ∀ p ∈ a, -b ≤ p.2 ∧ p.2 ≤ b) (g : ∀ p ∈ c, -b ≤ p.2 ∧ p.2 ≤ b) : ∀ p ∈ a ++ c, -b ≤ p.2 ∧ p.2 ≤ b := fun p hp => (List.mem_append.mp hp).elim (h p) (g p)
theorem bd_con {b : Int} {a : List Pc} (h : ∀ p ∈ a, -b ≤ p.2 ∧ p.2 ≤ b) : ∀ p ∈ con a, -b ≤ p.2 ∧ p.2 ≤ b := fun p hp => by
  obtain ⟨q, hq, rfl⟩ := List.mem_map.mp hp
  have := h q (List.mem_reverse.mp hq)
  exact ⟨by show -b ≤ -q.2; omega, by show -q.2 ≤ b; omega⟩
def widP (n : Str) (p : Pc) : Int := if p.1 = n then 2 * (if p.2 < 0 then -p.2 else p.2) else 1
def wid (n : Str) (c : List Pc) : Int := (c.map (widP n)).sum
inductive Mv where
  | turn (a : Nat) | change (a b : Nat) | slide (a b : Nat) (k : Int)
def dMv : Mv → D
  | .turn a => .tup [.str "turn", .str (tx [a])]
  | .change a b => .tup [.str "change", .str (tx [a]), .str (tx [b])]
  | .slide a b k => .tup [.str "slide", .str (tx [a]), .str (tx [b]), .int k]
def slP (a b : Nat) (k : Int) (p : Pc) : List Pc := if p.1 = tx [a] then (if p.2 < 0 then (List.replicate (-p.2).toNat [(tx [b], -k), (tx [a], -1)]).flatten else (List.replicate p.2.toNat [(tx [a], 1), (tx [b], k)]).flatten) else [p]
/-- what a move makes of a cord, nothing put together -/
def mvs : Mv → List Pc → List Pc
  | .turn a, c => c.map fun p => if p.1 = tx [a] then (p.1, -p.2) else p
  | .change a b, c => c.map fun p => (if p.1 = tx [a] then tx [b] else if p.1 = tx [b] then tx [a] else p.1, p.2)
  | .slide a b k, c => (c.map (slP a b k)).flatten
def MvOk : Mv → Prop
  | .turn a => 97 ≤ a ∧ a ≤ 122
  | .change a b => 97 ≤ a ∧ a ≤ 122 ∧ 97 ≤ b ∧ b ≤ 122 ∧ a ≠ b
  | .slide a b k => 97 ≤ a ∧ a ≤ 122 ∧ 97 ≤ b ∧ b ≤ 122 ∧ a ≠ b ∧ -2 ≤ k ∧ k ≤ 2
theorem nail_mk {a : Nat} (h : 97 ≤ a) (g : a ≤ 122) : isNail (tx [a]) := ⟨a, rfl, h, g⟩
theorem mvs_nl {m : Mv} {c : List Pc} (h : MvOk m) (g : Nl c) : Nl (mvs m c) := fun p hp => by
  cases m with
  | turn a =>
    obtain ⟨q, hq, rfl⟩ := List.mem_map.mp hp
    split <;> exact g q hq
  | change a b =>
    obtain ⟨q, hq, rfl⟩ := List.mem_map.mp hp
    simp only
    split
    · exact nail_mk h.2.2.1 h.2.2.2.1
    · split
      · exact nail_mk h.1 h.2.1
      · exact g q hq
  | slide a b k =>
    obtain ⟨l, hl, hp⟩ := List.mem_flatten.mp hp
    obtain ⟨q, hq, rfl⟩ := List.mem_map.mp hl
    unfold slP at hp
    split at hp
    · split at hp
      · have := rep_mem hp
        simp only [List.mem_cons, List.not_mem_nil, or_false] at this
        rcases this with rfl | rfl
        · exact nail_mk h.2.2.1 h.2.2.2.1
        · exact nail_mk h.1 h.2.1
      · have := rep_mem hp
        simp only [List.mem_cons, List.not_mem_nil, or_false] at this
        rcases this with rfl | rfl
        · exact nail_mk h.1 h.2.1
        · exact nail_mk h.2.2.1 h.2.2.2.1
    · rw [List.mem_singleton] at hp
      rw [hp]
      exact g q hq
theorem slP_len (a b : Nat) (k : Int) (p : Pc) : ((slP a b k p).length : Int) = widP (tx [a]) p := by
  unfold slP widP
  split
  · split
    · rw [rep_len]
      simp only [List.length_cons, List.length_nil]
      omega
    · rw [rep_len]
      simp only [List.length_cons, List.length_nil]
      omega
  · rfl
theorem mvs_len (a b : Nat) (k : Int) : ∀ c : List Pc, ((mvs (.slide a b k) c).length : Int) = wid (tx [a]) c
  | [] => rfl
  | p :: c => by
    have ih := mvs_len a b k c
    have e := slP_len a b k p
    simp only [mvs, wid, List.map_cons, List.flatten_cons, List.length_append, List.sum_cons] at ih ⊢
    omega
theorem widP_nn (n : Str) (p : Pc) : 0 ≤ widP n p := by
  unfold widP
  split
  · split <;> omega
  · omega
theorem slP_zero (a b : Nat) (p : Pc) (w : List Pc) (hw : Red w) : act (slP a b 0 p) w = act [p] w := by
  have one : ∀ (m : Nat) (w : List Pc), Red w → act (List.replicate m [((tx [a] : Str), (1 : Int)), (tx [b], 0)]).flatten w = ps (tx [a], (m : Int)) w := fun m => by
    induction m with
    | zero => intro w _; show w = _; rw [show ((0 : Nat) : Int) = 0 by rfl, ps_zero]
    | succ m ih =>
      intro w hw
      rw [List.replicate_succ, List.flatten_cons, act_app, ih w hw]
      show ps (tx [a], 1) (ps (tx [b], 0) (ps (tx [a], (m : Int)) w)) = _
      rw [ps_zero, ps_ps hw]
      congr 2
      omega
  have two : ∀ (m : Nat) (w : List Pc), Red w → act (List.replicate m [((tx [b] : Str), (-0 : Int)), (tx [a], -1)]).flatten w = ps (tx [a], -(m : Int)) w := fun m => by
    induction m with
    | zero => intro w _; show w = _; rw [show -((0 : Nat) : Int) = 0 by rfl, ps_zero]
    | succ m ih =>
      intro w hw
      rw [List.replicate_succ, List.flatten_cons, act_app, ih w hw]
      show ps (tx [b], -0) (ps (tx [a], -1) (ps (tx [a], -(m : Int)) w)) = _
      rw [show (-0 : Int) = 0 by rfl, ps_zero, ps_ps hw]
      congr 2
      omega
  unfold slP
  split
  · rename_i h
    have ep : p = (tx [a], p.2) := Prod.ext h rfl
    split
    · rw [two _ _ hw]
      show _ = ps p w
      rw [ep]
      congr 2
      simp only
      omega
    · rw [one _ _ hw]
      show _ = ps p w
      rw [ep]
      congr 2
      simp only
      omega
  · rfl
theorem slide_zero (a b : Nat) : ∀ c : List Pc, Eqv (mvs (.slide a b 0) c) c
  | [] => .refl _
  | p :: c => by
    have ih := slide_zero a b c
    have : Eqv (slP a b 0 p ++ mvs (.slide a b 0) c) ([p] ++ c) := Eqv.app (fun w hw => slP_zero a b p w hw) ih
    exact this
def mvN (r : List Pc) (m : Mv) : List Pc := nf (mvs m r)
/-- the moves can be done one after the other -/
def Fit : List Pc → List Mv → Prop
  | _, [] => True
  | r, m :: ms => (MvOk m ∧ r.length ≤ 100000 ∧ Nl r ∧ Tb r ∧ ∀ a b k, m = .slide a b k → wid (tx [a]) r ≤ 4000) ∧ Fit (mvN r m) ms
theorem Fit.ok : ∀ {ms : List Mv} {r : List Pc}, Fit r ms → ∀ m ∈ ms, MvOk m
  | [], _, _ => fun _ h => by cases h
  | m :: ms, r, h => fun m' h' => by
    rcases List.mem_cons.mp h' with z | z
    · rw [z]; exact h.1.1
    · exact Fit.ok h.2 m' z
theorem Fit.snoc : ∀ {ms : List Mv} {r : List Pc} {m : Mv}, Fit r ms → Fit (ms.foldl mvN r) [m] → Fit r (ms ++ [m])
  | [], _, _, _, g => g
  | _ :: _, _, _, h, g => ⟨h.1, Fit.snoc h.2 g⟩
theorem filter_len {l : List Nat} {y : Nat} (hy : y ∈ l) (hn : l.Nodup) : (l.filter fun z => decide (z ≠ y)).length = l.length - 1 := by
  induction l with
  | nil => cases hy
  | cons z l ih =>
    rw [List.nodup_cons] at hn
    rw [List.filter_cons]
    by_cases h : z = y
    · subst h
      have : l.filter (fun w => decide (w ≠ z)) = l := List.filter_eq_self.mpr fun w hw => decide_eq_true fun e => hn.1 (e ▸ hw)
      rw [if_neg (by simp), this]
      simp
    · rw [if_pos (by simpa using h), List.length_cons, List.length_cons, ih ((List.mem_cons.mp hy).resolve_left fun e => h e.symm) hn.2]
      have : l ≠ [] := fun e => by
        rw [e] at hy
        simp at hy
        exact h hy.symm
      have := List.length_pos_iff.mpr this
      omega
/-! how great the turns grow -/
def tot (c : List Pc) : Nat := (c.map fun p => p.2.natAbs).sum
theorem tot_cons (p : Pc) (c : List Pc) : tot (p :: c) = p.2.natAbs + tot c := by simp [tot]
theorem tot_app (a b : List Pc) : tot (a ++ b) = tot a + tot b := by simp [tot]
theorem tot_mem : ∀ {c : List Pc} {p : Pc}, p ∈ c → p.2.natAbs ≤ tot c
  | q :: c, p, h => by
    rw [tot_cons]
    rcases List.mem_cons.mp h with e | e
    · rw [e]; omega
    · have := tot_mem e; omega
theorem tot_ps (p : Pc) (w : List Pc) : tot (ps p w) ≤ p.2.natAbs + tot w := by
  unfold ps
  split
  · omega
  · cases w with
    | nil => simp [tot]
    | cons l r =>
      simp only
      split
      · split
        · rw [tot_cons]; omega
        · rw [tot_cons, tot_cons]
          simp only
          omega
      · rw [tot_cons]; omega
theorem tot_nf : ∀ c : List Pc, tot (nf c) ≤ tot c
  | [] => Nat.le_refl _
  | p :: c => by
    have h := tot_nf c
    have g := tot_ps p (nf c)
    rw [tot_cons]
    show tot (ps p (nf c)) ≤ _
    omega
theorem tot_rep (m : Nat) (p q : Pc) : tot (List.replicate m [p, q]).flatten = m * (p.2.natAbs + q.2.natAbs) := by
  induction m with
  | zero => simp [tot]
  | succ m ih =>
    rw [List.replicate_succ, List.flatten_cons, tot_app, ih, Nat.succ_mul]
    simp [tot]
    omega
theorem tot_mvs {m : Mv} (h : MvOk m) : ∀ c : List Pc, tot (mvs m c) ≤ 3 * tot c
  | [] => by cases m <;> simp [mvs, tot]
  | p :: c => by
    have ih := tot_mvs h c
    rw [tot_cons]
    cases m with
    | turn a =>
      have : tot (mvs (.turn a) (p :: c)) = (if p.1 = tx [a] then (p.1, -p.2) else p).2.natAbs + tot (mvs (.turn a) c) := by simp [mvs, tot]
      rw [this]
      split
      · simp only [Int.natAbs_neg]; omega
      · omega
    | change a b =>
      have : tot (mvs (.change a b) (p :: c)) = p.2.natAbs + tot (mvs (.change a b) c) := by simp [mvs, tot]
      omega
    | slide a b k =>
      have : tot (mvs (.slide a b k) (p :: c)) = tot (slP a b k p) + tot (mvs (.slide a b k) c) := by
        rw [← tot_app]; rfl
      have hk := h.2.2.2.2.2
      have key : tot (slP a b k p) ≤ 3 * p.2.natAbs := by
        unfold slP
        split
        · split
          · rw [tot_rep]
            simp only
            have e1 : (-k).natAbs + (-1 : Int).natAbs ≤ 3 := by omega
            have e2 : (-p.2).toNat ≤ p.2.natAbs := by omega
            calc _ ≤ p.2.natAbs * 3 := Nat.mul_le_mul e2 e1
              _ = _ := by omega
          · rw [tot_rep]
            simp only
            have e1 : (1 : Int).natAbs + k.natAbs ≤ 3 := by omega
            have e2 : p.2.toNat ≤ p.2.natAbs := by omega
            calc _ ≤ p.2.natAbs * 3 := Nat.mul_le_mul e2 e1
              _ = _ := by omega
        · simp [tot]; omega
      omega
theorem tot_mvN {m : Mv} (h : MvOk m) (c : List Pc) : tot (mvN c m) ≤ 3 * tot c := Nat.le_trans (tot_nf _) (tot_mvs h c)
theorem tot_tb {c : List Pc} (h : tot c ≤ 2 ^ 120) : Tb c := fun p hp => Nat.le_trans (tot_mem hp) h
theorem tot_of {b : Nat} : ∀ {c : List Pc}, (∀ p ∈ c, p.2.natAbs ≤ b) → tot c ≤ c.length * b
  | [], _ => by simp [tot]
  | p :: c, h => by
    have := tot_of (c := c) fun q hq => h q (by simp [hq])
    have := h p (by simp)
    rw [tot_cons, List.length_cons, Nat.succ_mul]
    omega
theorem mvs_len0 {m : Mv} (hm : ∀ a b k, m ≠ .slide a b k) (c : List Pc) : (mvs m c).length = c.length := by
  cases m with
  | turn a => simp [mvs]
  | change a b => simp [mvs]
  | slide a b k => exact absurd rfl (hm a b k)
theorem On.nl {l : List Nat} {c : List Pc} (h : On l c) (g : Lt l) : Nl c := fun p hp => by
  obtain ⟨y, hy, e⟩ := h p hp
  exact ⟨y, e, g y hy⟩
/-! a move keeps what cords do -/
theorem slW_succ {a b : Nat} {k t : Int} {w : List Pc} (hw : Red w) : act (slP a b k (tx [a], t + 1)) w = act [(tx [a], 1), (tx [b], k)] (act (slP a b k (tx [a], t)) w) := by
  have back : ∀ u, Red u → act [((tx [a] : Str), (1 : Int)), (tx [b], k)] (act [(tx [b], -k), (tx [a], -1)] u) = u := fun u hu => by
    rw [← act_app]
    exact eqv_con [(tx [a], 1), (tx [b], k)] u hu
  unfold slP
  simp only [if_true]
  by_cases h : t < 0
  · have e : (-t).toNat = (-(t + 1)).toNat + 1 := by omega
    rw [if_pos h, e, List.replicate_succ, List.flatten_cons, act_app, back _ (act_red hw)]
    split
    · rfl
    · have e1 : (t + 1).toNat = 0 := by omega
      have e2 : (-(t + 1)).toNat = 0 := by omega
      rw [e1, e2]
      rfl
  · rw [if_neg h, if_neg (by omega), show (t + 1).toNat = t.toNat + 1 by omega, List.replicate_succ, List.flatten_cons, act_app]
theorem slW_add (a b : Nat) (k s t : Int) : Eqv (slP a b k (tx [a], s + t)) (slP a b k (tx [a], s) ++ slP a b k (tx [a], t)) := by
  intro w hw
  rw [act_app]
  refine up_down (p := fun s => act (slP a b k (tx [a], s + t)) w = act (slP a b k (tx [a], s)) (act (slP a b k (tx [a], t)) w)) ?_ (fun s => ?_) s
  · rw [Int.zero_add]
    unfold slP
    simp
    rfl
  · rw [show s + 1 + t = s + t + 1 by omega, slW_succ hw, slW_succ (act_red hw)]
    refine ⟨fun h => by rw [h], fun h => ?_⟩
    have bk : ∀ u, Red u → act (con [((tx [a] : Str), (1 : Int)), (tx [b], k)]) (act [(tx [a], 1), (tx [b], k)] u) = u := fun u hu => by
      rw [← act_app]
      exact eqv_con' [(tx [a], 1), (tx [b], k)] u hu
    have g := congrArg (act (con [((tx [a] : Str), (1 : Int)), (tx [b], k)])) h
    rwa [bk _ (act_red hw), bk _ (act_red (act_red hw))] at g
theorem mvs_app (m : Mv) (a b : List Pc) : mvs m (a ++ b) = mvs m a ++ mvs m b := by
  cases m <;> simp [mvs]
theorem mvs_one (m : Mv) (p : Pc) (c : List Pc) : mvs m (p :: c) = mvs m [p] ++ mvs m c := mvs_app m [p] c
theorem mvs_part (m : Mv) (n : Str) (s t : Int) : Eqv (mvs m [(n, s + t)]) (mvs m [(n, s)] ++ mvs m [(n, t)]) := by
  cases m with
  | turn a =>
    simp only [mvs, List.map_cons, List.map_nil]
    split
    · exact eqv_part (by omega)
    · exact eqv_part rfl
  | change a b =>
    simp only [mvs, List.map_cons, List.map_nil]
    exact eqv_part rfl
  | slide a b k =>
    simp only [mvs, List.map_cons, List.map_nil, List.flatten_cons, List.flatten_nil, List.append_nil]
    by_cases h : n = tx [a]
    · subst h
      exact slW_add a b k s t
    · unfold slP
      simp only [if_neg h]
      exact eqv_part rfl
theorem mvs_zero (m : Mv) (n : Str) : Eqv (mvs m [(n, 0)]) [] := by
  cases m with
  | turn a =>
    simp only [mvs, List.map_cons, List.map_nil]
    split
    · exact eqv_zero.symm
    · exact eqv_zero.symm
  | change a b =>
    simp only [mvs, List.map_cons, List.map_nil]
    exact eqv_zero.symm
  | slide a b k =>
    simp only [mvs, List.map_cons, List.map_nil, List.flatten_cons, List.flatten_nil, List.append_nil]
    unfold slP
    split
    · simp only [Int.lt_irrefl, if_false]
      exact .refl _
    · exact eqv_zero.symm
theorem mvs_ps (m : Mv) (p : Pc) (w : List Pc) : Eqv (mvs m (ps p w)) (mvs m [p] ++ mvs m w) := by
  have hp : p = (p.1, p.2) := rfl
  unfold ps
  split
  · rename_i h
    rw [hp, h]
    exact ((mvs_zero m p.1).app (Eqv.refl (mvs m w))).symm
  · cases w with
    | nil =>
      have : mvs m [] = [] := by cases m <;> rfl
      simp only [this, List.append_nil]
      exact .refl _
    | cons l r =>
      simp only
      split
      · rename_i e
        have el : l = (p.1, l.2) := Prod.ext e rfl
        have key : Eqv (mvs m [(p.1, p.2 + l.2)] ++ mvs m r) (mvs m [p] ++ mvs m (l :: r)) := by
          rw [mvs_one m l r, ← List.append_assoc]
          refine Eqv.app ?_ (.refl _)
          rw [el]
          exact mvs_part m p.1 p.2 l.2
        split
        · rename_i hs
          rw [hs] at key
          exact ((mvs_zero m p.1).symm.app (Eqv.refl (mvs m r))).trans key
        · rw [mvs_one]
          exact key
      · rw [mvs_one m p (l :: r)]
        exact .refl _
theorem mvs_nf (m : Mv) : ∀ c : List Pc, Eqv (mvs m c) (mvs m (nf c))
  | [] => by cases m <;> exact .refl _
  | p :: c => by
    have ih := mvs_nf m c
    have h := mvs_ps m p (nf c)
    rw [mvs_one]
    exact ((Eqv.refl (mvs m [p])).app ih).trans h.symm
theorem mvs_eqv (m : Mv) {c d : List Pc} (h : Eqv c d) : Eqv (mvs m c) (mvs m d) := by
  have := mvs_nf m d
  rw [← h.nf] at this
  exact (mvs_nf m c).trans this.symm
theorem mvN_nf (m : Mv) (c : List Pc) : mvN (nf c) m = nf (mvs m c) := (mvs_nf m c).nf.symm
theorem mvs_con (m : Mv) (c : List Pc) : Eqv (mvs m (con c)) (con (mvs m c)) := by
  have h1 : Eqv (mvs m (con c) ++ mvs m c) [] := by
    rw [← mvs_app]
    have := mvs_eqv m (eqv_con' c)
    have e : mvs m [] = [] := by cases m <;> rfl
    rwa [e] at this
  have h2 : Eqv (mvs m (con c)) (mvs m (con c) ++ (mvs m c ++ con (mvs m c))) := by
    have := (Eqv.refl (mvs m (con c))).app (eqv_con (mvs m c)).symm
    simpa using this
  rw [← List.append_assoc] at h2
  have h3 := h1.app (Eqv.refl (con (mvs m c)))
  exact h2.trans h3
/-- the move that undoes a move -/
def inv : Mv → Mv
  | .slide a b k => .slide a b (-k)
  | m => m
theorem inv_ok {m : Mv} (h : MvOk m) : MvOk (inv m) := by
  cases m with
  | slide a b k => exact ⟨h.1, h.2.1, h.2.2.1, h.2.2.2.1, h.2.2.2.2.1, by have := h.2.2.2.2.2; omega, by have := h.2.2.2.2.2; omega⟩
  | _ => exact h
theorem inv_inv (m : Mv) : inv (inv m) = m := by
  cases m with
  | slide a b k => show Mv.slide a b (- -k) = _; rw [Int.neg_neg]
  | _ => rfl
theorem mvs_rep (m : Mv) (n : Nat) (w : List Pc) : mvs m (List.replicate n w).flatten = (List.replicate n (mvs m w)).flatten := by
  induction n with
  | zero => cases m <;> rfl
  | succ n ih => rw [List.replicate_succ, List.replicate_succ, List.flatten_cons, List.flatten_cons, mvs_app, ih]
theorem rep_eqv {u v : List Pc} (h : Eqv u v) : ∀ n, Eqv (List.replicate n u).flatten (List.replicate n v).flatten
  | 0 => .refl _
  | n + 1 => by
    rw [List.replicate_succ, List.replicate_succ, List.flatten_cons, List.flatten_cons]
    exact h.app (rep_eqv h n)
theorem rep_pc (n : Str) (j : Int) : ∀ m : Nat, Eqv (List.replicate m [((n, j) : Pc)]).flatten [(n, m * j)]
  | 0 => by
    show Eqv [] _
    rw [show ((0 : Nat) : Int) * j = 0 by simp]
    exact eqv_zero
  | m + 1 => by
    rw [List.replicate_succ, List.flatten_cons]
    refine ((Eqv.refl [(n, j)]).app (rep_pc n j m)).trans ?_
    exact (eqv_part (by rw [show ((m + 1 : Nat) : Int) = (m : Int) + 1 by omega, Int.add_mul]; omega)).symm
theorem tx_ne {a b : Nat} (h : a ≠ b) : ¬ tx [a] = tx [b] := fun e => h (by simpa [tx_inj] using e)
theorem inv_one {m : Mv} (h : MvOk m) (p : Pc) : Eqv (mvs (inv m) (mvs m [p])) [p] := by
  cases m with
  | turn a =>
    simp only [inv, mvs, List.map_cons, List.map_nil]
    by_cases e : p.1 = tx [a]
    · simp only [if_pos e, Int.neg_neg]
      exact .refl _
    · simp only [if_neg e]
      exact .refl _
  | change a b =>
    have hn := tx_ne h.2.2.2.2
    simp only [inv, mvs, List.map_cons, List.map_nil]
    by_cases e : p.1 = tx [a]
    · simp only [if_pos e, if_neg (fun z => hn (Eq.symm z)), if_true]
      rw [← e]
      exact .refl _
    · by_cases e' : p.1 = tx [b]
      · simp only [if_neg e, if_pos e', if_true]
        rw [← e']
        exact .refl _
      · simp only [if_neg e, if_neg e']
        exact .refl _
  | slide a b k =>
    have hn := tx_ne h.2.2.2.2.1
    have hn' := tx_ne (Ne.symm h.2.2.2.2.1)
    by_cases e : p.1 = tx [a]
    · have one : Eqv (mvs (.slide a b (-k)) [(tx [a], 1), (tx [b], k)]) [(tx [a], 1)] := by
        have e1 : mvs (.slide a b (-k)) [(tx [a], 1), (tx [b], k)] = [(tx [a], 1), (tx [b], -k), (tx [b], k)] := by
          simp [mvs, slP, hn']
        rw [e1]
        have := (Eqv.refl [((tx [a] : Str), (1 : Int))]).app ((eqv_part (n := tx [b]) (a := -k) (b := k) (t := 0) (by omega)).symm.trans eqv_zero.symm)
        simpa using this
      have two : Eqv (mvs (.slide a b (-k)) [(tx [b], -k), (tx [a], -1)]) [(tx [a], -1)] := by
        have e1 : mvs (.slide a b (-k)) [(tx [b], -k), (tx [a], -1)] = [(tx [b], -k), (tx [b], k), (tx [a], -1)] := by
          simp [mvs, slP, hn']
        rw [e1]
        have := ((eqv_part (n := tx [b]) (a := -k) (b := k) (t := 0) (by omega)).symm.trans eqv_zero.symm).app (Eqv.refl [((tx [a] : Str), (-1 : Int))])
        simpa using this
      have ep : p = (tx [a], p.2) := Prod.ext e rfl
      have em : mvs (.slide a b k) [p] = slP a b k p := by simp [mvs]
      rw [em]
      unfold slP
      rw [if_pos e]
      split
      · show Eqv (mvs (.slide a b (-k)) _) _
        rw [mvs_rep]
        refine (rep_eqv two _).trans ((rep_pc _ _ _).trans ?_)
        rw [ep]
        rw [show (((-p.2).toNat : Nat) : Int) * -1 = p.2 by omega]
        exact .refl _
      · show Eqv (mvs (.slide a b (-k)) _) _
        rw [mvs_rep]
        refine (rep_eqv one _).trans ((rep_pc _ _ _).trans ?_)
        rw [ep]
        rw [show ((p.2.toNat : Nat) : Int) * 1 = p.2 by omega]
        exact .refl _
    · have em : ∀ k, mvs (.slide a b k) [p] = [p] := fun k => by simp [mvs, slP, e]
      rw [em]
      show Eqv (mvs (.slide a b (-k)) [p]) [p]
      rw [em]
      exact .refl _
theorem inv_eqv {m : Mv} (h : MvOk m) : ∀ c : List Pc, Eqv (mvs (inv m) (mvs m c)) c
  | [] => by cases m <;> exact .refl _
  | p :: c => by
    rw [mvs_one m p c, mvs_app]
    exact (inv_one h p).app (inv_eqv h c)
theorem inv_mvN {m : Mv} (h : MvOk m) {r : List Pc} (hr : Red r) : mvN (mvN r m) (inv m) = r := by
  show nf (mvs (inv m) (nf (mvs m r))) = r
  rw [(mvs_eqv (inv m) (eqv_nf (mvs m r)).symm).nf, (inv_eqv h r).nf, red_nf hr]
theorem mvN_red (r : List Pc) (m : Mv) : Red (mvN r m) := nf_red _
theorem fold_red : ∀ (ms : List Mv) {r : List Pc}, Red r → Red (ms.foldl mvN r)
  | [], _, h => h
  | m :: ms, r, _ => fold_red ms (mvN_red r m)
/-- moved there and back -/
theorem fold_back : ∀ (ms : List Mv) {r : List Pc}, (∀ m ∈ ms, MvOk m) → Red r → (ms.reverse.map inv).foldl mvN (ms.foldl mvN r) = r
  | [], r, _, _ => rfl
  | m :: ms, r, h, hr => by
    rw [List.reverse_cons, List.map_append, List.foldl_append, List.foldl_cons, fold_back ms (fun m' h' => h m' (by simp [h'])) (mvN_red r m)]
    exact inv_mvN (h m (by simp)) hr
theorem foldN_app : ∀ (ms : List Mv) (u v : List Pc), ms.foldl mvN (nf (u ++ v)) = nf (ms.foldl mvN (nf u) ++ ms.foldl mvN (nf v))
  | [], u, v => nf_app2 u v
  | m :: ms, u, v => by
    simp only [List.foldl_cons, mvN_nf, mvs_app]
    exact foldN_app ms _ _
theorem foldN_con : ∀ (ms : List Mv) (u : List Pc), ms.foldl mvN (nf (con u)) = con (ms.foldl mvN (nf u))
  | [], u => nf_con_nf u
  | m :: ms, u => by
    simp only [List.foldl_cons, mvN_nf]
    rw [(mvs_con m u).nf]
    exact foldN_con ms _
theorem foldN_inj {ms : List Mv} (h : ∀ m ∈ ms, MvOk m) {u v : List Pc} (e : ms.foldl mvN (nf u) = ms.foldl mvN (nf v)) : nf u = nf v := by
  have h1 := fold_back ms h (nf_red u)
  have h2 := fold_back ms h (nf_red v)
  rw [← h1, e, h2]
end NL

/-! The order of cords; cords led by others: rings. -/
namespace NL
open PySem PySem.Spec L2
open PyProof.Rows hiding St
theorem Br.yes {A B : Prop} {s : Tg A} {t : Tg B} (h : A) : Br true A B s t := h
theorem Br.no {A B : Prop} {s : Tg A} {t : Tg B} (h : B) : Br false A B s t := h
theorem rngD_nat {n : Nat} : (rng 0 1 n).map D.int = (List.range n).map fun i : Nat => D.int i := by simp [rng, Function.comp_def]
/-! ### the order -/
abbrev plt (a b : List Pc) : Bool := PySem.W.DatumOrd.lt (α := List (Str × Int)) a b
theorem ord_tri {α : Type} [DecidableEq α] [PySem.W.DatumOrd α] {a b : α} (h : PySem.W.DatumOrd.lt a b = false) (g : PySem.W.DatumOrd.lt b a = false) : a = b := by
  rw [← PySem.W.DatumOrd.lt_eq] at h g
  have e := PyProof.Rows.lex_total (O := PyProof.Rows.itemOrd) _ _ h g
  apply Decidable.byContradiction
  intro n
  have d : PyData.eqv (PySem.W.Datum.toD a) (PySem.W.Datum.toD b) = false := by rw [PySem.W.Datum.eqv]; simp [n]
  have z := (PySem.W.toks_eqv _ _ (PySem.W.DatumOrd.alike a b)).2 d [] [.inl 0]
  rw [e] at z
  have z1 := PySem.W.lex_pre (PySem.W.keyToks (PySem.W.Datum.toD b)) [] [.inl 0]
  rw [z1, PyProof.Rows.lex_irrefl] at z
  exact absurd z (by decide)
theorem ord_irr {α : Type} [DecidableEq α] [PySem.W.DatumOrd α] (a : α) : PySem.W.DatumOrd.lt a a = false := by
  rw [← PySem.W.DatumOrd.lt_eq]
  exact PySem.W.dataLt_self _
theorem ord_trans {α : Type} [DecidableEq α] [PySem.W.DatumOrd α] {a b c : α} (h : PySem.W.DatumOrd.lt a b = true) (g : PySem.W.DatumOrd.lt b c = true) : PySem.W.DatumOrd.lt a c = true := by
  rw [← PySem.W.DatumOrd.lt_eq] at h g ⊢
  exact PyProof.Rows.lex_trans _ _ _ h g
/-- what is not below b is not below what is below b -/
theorem ord_low {α : Type} [DecidableEq α] [PySem.W.DatumOrd α] {x a b : α} (h : PySem.W.DatumOrd.lt a b = true) (g : PySem.W.DatumOrd.lt x b = false) : PySem.W.DatumOrd.lt x a = false := by
  cases e : PySem.W.DatumOrd.lt x a with
  | false => rfl
  | true => rw [ord_trans e h] at g; exact g
theorem py_dC (c : List Pc) : py (dC c) = PySem.W.Datum.toD (α := List (Str × Int)) c := by
  show PyData.list _ = PyData.list _
  congr 1
  induction c with
  | nil => rfl
  | cons p c ih =>
    show _ :: _ = _ :: _
    congr 1
theorem dlt_dC (a b : List Pc) : dlt (dC a) (dC b) = plt a b := by
  unfold dlt
  rw [py_dC, py_dC]
  exact PySem.W.DatumOrd.lt_eq a b
theorem lik_dC (a b : List Pc) : lik (dC a) (dC b) := by
  unfold lik
  rw [py_dC, py_dC]
  exact PySem.W.DatumOrd.alike a b
/-! ### begun at another piece -/
def Rot (a b : List Pc) : Prop := ∃ x y, a = x ++ y ∧ b = y ++ x
theorem Rot.refl (a : List Pc) : Rot a a := ⟨[], a, rfl, by simp⟩
theorem Rot.symm {a b : List Pc} (h : Rot a b) : Rot b a := by
  obtain ⟨x, y, e, f⟩ := h
  exact ⟨y, x, f, e⟩
theorem Rot.trans {a b c : List Pc} (h : Rot a b) (g : Rot b c) : Rot a c := by
  obtain ⟨x, y, rfl, rfl⟩ := h
  obtain ⟨u, v, e, rfl⟩ := g
  rcases List.append_eq_append_iff.mp e with ⟨w, h1, h2⟩ | ⟨w, h1, h2⟩
  · subst h1 h2
    exact ⟨w, v ++ y, by simp, by simp⟩
  · subst h1 h2
    exact ⟨x ++ u, w, by simp, by simp⟩
theorem Rot.len {a b : List Pc} (h : Rot a b) : b.length = a.length := by
  obtain ⟨x, y, rfl, rfl⟩ := h
  simp [Nat.add_comm]
theorem Rot.mem {a b : List Pc} (h : Rot a b) {p : Pc} (hp : p ∈ b) : p ∈ a := by
  obtain ⟨x, y, rfl, rfl⟩ := h
  simp at hp ⊢
  exact hp.symm
theorem rot_at (a : List Pc) (k : Nat) : Rot a (a.drop k ++ a.take k) := ⟨a.take k, a.drop k, by simp, rfl⟩
theorem Rot.cut {a b : List Pc} (h : Rot a b) : b = a ∨ ∃ k, k < a.length ∧ b = a.drop k ++ a.take k := by
  obtain ⟨x, y, rfl, rfl⟩ := h
  cases y with
  | nil => exact .inl (by simp)
  | cons p y => exact .inr ⟨x.length, by simp, by simp⟩
/-! ### runs with unlike ends -/
theorem red_join : ∀ {a b : List Pc}, Red a → Red b → (∀ p q, a.getLast? = some p → b.head? = some q → p.1 ≠ q.1) → Red (a ++ b)
  | [], _, _, h, _ => h
  | [p], b, h, g, n => Red.mk h (fun q e => n p q rfl e) g
  | p :: q :: r, b, h, g, n => ⟨h.1, h.2.1, red_join (a := q :: r) h.2.2 g fun s t e f => n s t (by rw [List.getLast?_cons_cons]; exact e) f⟩
theorem red_part1 : ∀ {a b : List Pc}, Red (a ++ b) → Red a
  | [], _, _ => trivial
  | [p], b, h => by
    cases b with
    | nil => exact h
    | cons q r => exact h.1
  | p :: q :: a, b, h => ⟨h.1, h.2.1, red_part1 (a := q :: a) h.2.2⟩
theorem red_part2 : ∀ {a b : List Pc}, Red (a ++ b) → Red b
  | [], _, h => h
  | p :: a, b, h => red_part2 (a := a) h.tail
theorem red_meet : ∀ {a b : List Pc} {p q : Pc}, Red (a ++ b) → a.getLast? = some p → b.head? = some q → p.1 ≠ q.1
  | [], _, _, _, _, e, _ => by simp at e
  | [s], b, p, q, h, e, f => by
    cases b with
    | nil => simp at f
    | cons t b =>
      simp at e f
      subst e f
      exact h.2.1
  | s :: t :: a, b, p, q, h, e, f => red_meet (a := t :: a) h.2.2 (by rw [List.getLast?_cons_cons] at e; exact e) f
theorem red_end {a : List Pc} {g g' : Pc} (h : Red (a ++ [g])) (e : g'.1 = g.1) (n : g'.2 ≠ 0) : Red (a ++ [g']) :=
  red_join (red_part1 h) n fun p q h1 h2 => by
    simp at h2
    subst h2
    rw [e]
    exact red_meet h h1 rfl
def Cyc (i : List Pc) : Prop := Red i ∧ (2 ≤ i.length → ∀ p q, i.head? = some p → i.getLast? = some q → p.1 ≠ q.1)
theorem Cyc.rt {a b : List Pc} (c : Cyc a) (h : Rot a b) : Cyc b := by
  obtain ⟨x, y, rfl, rfl⟩ := h
  rcases x with _ | ⟨p, x⟩
  · simpa using c
  rcases y with _ | ⟨q, y⟩
  · simpa using c
  refine ⟨red_join (red_part2 c.1) (red_part1 c.1) fun s t e f => ?_, fun _ s t e f => ?_⟩
  · refine (c.2 (by simp; omega) t s ?_ ?_).symm
    · simpa using f
    · rw [List.getLast?_append, e]; rfl
  · have f' : (p :: x).getLast? = some t := by
      rw [List.getLast?_append] at f
      simpa [List.getLast?_cons] using f
    have e' : (q :: y).head? = some s := by simpa using e
    exact (red_meet c.1 f' e').symm
theorem no_ends {u v m : List Pc} {p q : Pc} (hu : u.head? = some p) (hv : v.head? = some q) (e : p.1 = q.1) : ¬ Cyc (u ++ m ++ con v) := fun c => by
  cases u with
  | nil => simp at hu
  | cons p' u =>
    cases v with
    | nil => simp at hv
    | cons q' v =>
      simp at hu hv
      subst hu hv
      refine c.2 (by simp [con_cons]; omega) p' (q'.1, -q'.2) (by simp) (by rw [con_cons, ← List.append_assoc, List.getLast?_append]; rfl) e
theorem head_app {u : List Pc} {p q : Pc} (e : p.1 = q.1) : ∃ a b : Pc, (u ++ [p]).head? = some a ∧ (u ++ [q]).head? = some b ∧ a.1 = b.1 := by
  cases u with
  | nil => exact ⟨p, q, rfl, rfl, e⟩
  | cons s u => exact ⟨s, s, rfl, rfl, rfl⟩
theorem con_head {u : List Pc} {p : Pc} : (con (u ++ [p])).head? = some (p.1, -p.2) := by simp [con]
theorem conj_rot0 : ∀ (n : Nat) (u i j : List Pc), u.length = n → Red u → Cyc i → Cyc j → nf (u ++ i ++ con u) = j → Rot i j
  | 0, u, i, j, hn, _, hi, _, e => by
    have : u = [] := List.length_eq_zero_iff.mp hn
    subst this
    have e' : nf i = j := by simpa [con] using e
    rw [red_nf hi.1] at e'
    rw [e']
    exact .refl _
  | n + 1, u, i, j, hn, hu, hi, hj, e => by
    rcases List.eq_nil_or_concat u with z | ⟨v, p, z⟩
    · rw [z] at hn; simp at hn
    rw [List.concat_eq_append] at z
    subst z
    have hv : v.length = n := by simpa using hn
    have rv : Red v := red_part1 hu
    have p0 : p.2 ≠ 0 := red_part2 hu
    have ih := fun i' h1 h2 => conj_rot0 n v i' j hv rv h1 hj h2
    have sp : v ++ [p] ++ i ++ con (v ++ [p]) = v ++ ([p] ++ i ++ [(p.1, -p.2)]) ++ con v := by rw [con_app]; simp [con]
    have whole : Red (v ++ [p] ++ i ++ con (v ++ [p])) → i ≠ [] → False := fun r _ => by
      rw [red_nf r] at e
      obtain ⟨a, b, h1, h2, h3⟩ := head_app (u := v) (p := p) (q := p) rfl
      rw [← e] at hj
      exact no_ends h1 h2 h3 hj
    rcases i with _ | ⟨a, i⟩
    · have : nf (v ++ [p] ++ con (v ++ [p])) = j := by simpa using e
      rw [nf_con] at this
      rw [← this]
      exact .refl _
    rcases List.eq_nil_or_concat i with z | ⟨m, b, z⟩
    · subst z
      by_cases ha : a.1 = p.1
      · refine ih [a] hi ?_
        rw [sp] at e
        refine Eq.trans (nf_mid v (con v) ?_) e
        intro w r
        obtain ⟨n1, t1⟩ := p
        obtain ⟨n2, t2⟩ := a
        simp only at ha
        subst ha
        simp only [List.cons_append, List.nil_append, act_cons, act_nil]
        rw [ps_ps r, ps_ps r, show t1 + (t2 + -t1) = t2 by omega]
      · refine (whole ?_ (by simp)).elim
        refine red_join (red_join hu hi.1 fun s t h1 h2 => ?_) (con_red hu) fun s t h1 h2 => ?_
        · simp at h1 h2
          subst h1 h2
          exact fun z => ha z.symm
        · rw [con_head] at h2
          simp at h1 h2
          subst h1 h2
          exact ha
    · rw [List.concat_eq_append] at z
      subst z
      have hab : a.1 ≠ b.1 := hi.2 (by simp) a b rfl (by rw [← List.cons_append, List.getLast?_append]; rfl)
      by_cases ha : a.1 = p.1
      · by_cases hs : p.2 + a.2 = 0
        · have ea : a = (p.1, -p.2) := by
            obtain ⟨n2, t2⟩ := a
            simp at ha hs ⊢
            exact ⟨ha, by omega⟩
          have rt : Rot (a :: (m ++ [b])) (m ++ [b] ++ [a]) := ⟨[a], m ++ [b], rfl, rfl⟩
          refine rt.trans (ih _ (hi.rt rt) ?_)
          rw [sp] at e
          refine Eq.trans (nf_mid v (con v) ?_) e
          rw [ea]
          have : Eqv ([p] ++ [(p.1, -p.2)]) [] := eqv_one p
          have := (this.app (Eqv.refl (m ++ [b] ++ [(p.1, -p.2)]))).symm
          simpa using this
        · exfalso
          have w : Red ((v ++ [(p.1, p.2 + a.2)]) ++ (m ++ [b]) ++ con (v ++ [p])) := by
            refine red_join (red_join (red_end hu rfl hs) hi.1.tail fun s t h1 h2 => ?_) (con_red hu) fun s t h1 h2 => ?_
            · rw [List.getLast?_append] at h1
              simp only [List.getLast?_singleton, Option.some_or, Option.some.injEq] at h1
              subst h1
              simp only
              rw [← ha]
              exact red_meet (a := [a]) hi.1 rfl h2
            · rw [con_head] at h2
              rw [← List.append_assoc, List.getLast?_append] at h1
              simp only [List.getLast?_singleton, Option.some_or, Option.some.injEq] at h1 h2
              subst h1 h2
              simp only
              rw [← ha]
              exact hab.symm
          have e2 : nf (v ++ [p] ++ (a :: (m ++ [b])) ++ con (v ++ [p])) = nf ((v ++ [(p.1, p.2 + a.2)]) ++ (m ++ [b]) ++ con (v ++ [p])) := by
            have q : Eqv ([p] ++ [a]) [(p.1, p.2 + a.2)] := by
              intro w r
              obtain ⟨n1, t1⟩ := p
              obtain ⟨n2, t2⟩ := a
              simp only at ha
              subst ha
              simp only [List.cons_append, List.nil_append, act_cons, act_nil]
              rw [ps_ps r]
            have := nf_mid v (m ++ [b] ++ con (v ++ [p])) q
            simpa using this
          rw [e2, red_nf w] at e
          obtain ⟨c, d, h1, h2, h3⟩ := head_app (u := v) (p := ((p.1, p.2 + a.2) : Pc)) (q := p) rfl
          rw [← e] at hj
          exact no_ends h1 h2 h3 hj
      · by_cases hb : b.1 = p.1
        · by_cases hs : b.2 - p.2 = 0
          · have eb : b = p := by
              obtain ⟨n2, t2⟩ := b
              obtain ⟨n1, t1⟩ := p
              simp at hb hs ⊢
              exact ⟨hb, by omega⟩
            subst eb
            have rt : Rot (a :: (m ++ [b])) ([b] ++ (a :: m)) := ⟨a :: m, [b], by simp, rfl⟩
            refine rt.trans (ih _ (hi.rt rt) ?_)
            rw [sp] at e
            refine Eq.trans (nf_mid v (con v) ?_) e
            have : Eqv ([b] ++ [(b.1, -b.2)]) [] := eqv_one b
            have := ((Eqv.refl ([b] ++ (a :: m))).app this).symm
            simpa using this
          · exfalso
            have hu2 : Red (v ++ [((p.1, -(b.2 - p.2)) : Pc)]) := red_end hu rfl (by show -(b.2 - p.2) ≠ 0; omega)
            have ra : Red (a :: m) := red_part1 (a := a :: m) (b := [b]) (by simpa using hi.1)
            have w : Red ((v ++ [p]) ++ (a :: m) ++ con (v ++ [((p.1, -(b.2 - p.2)) : Pc)])) := by
              refine red_join (red_join hu ra fun s t h1 h2 => ?_) (con_red hu2) fun s t h1 h2 => ?_
              · simp at h1 h2
                subst h1 h2
                exact fun z => ha z.symm
              · rw [con_head] at h2
                simp only [Option.some.injEq] at h2
                subst h2
                simp only
                rw [← hb]
                refine red_meet (a := a :: m) (b := [b]) (by simpa using hi.1) ?_ rfl
                rw [List.getLast?_append] at h1
                simpa [List.getLast?_cons] using h1
            have e2 : nf (v ++ [p] ++ (a :: (m ++ [b])) ++ con (v ++ [p])) = nf ((v ++ [p]) ++ (a :: m) ++ con (v ++ [((p.1, -(b.2 - p.2)) : Pc)])) := by
              have q : Eqv ([b] ++ [(p.1, -p.2)]) [(p.1, b.2 - p.2)] := by
                intro w r
                obtain ⟨n1, t1⟩ := p
                obtain ⟨n2, t2⟩ := b
                simp only at hb
                subst hb
                simp only [List.cons_append, List.nil_append, act_cons, act_nil]
                rw [ps_ps r, show t2 + -t1 = t2 - t1 by omega]
              have := nf_mid (v ++ [p] ++ (a :: m)) (con v) q
              simpa [con, Int.neg_sub] using this
            rw [e2, red_nf w] at e
            obtain ⟨c, d, h1, h2, h3⟩ := head_app (u := v) (p := p) (q := ((p.1, -(b.2 - p.2)) : Pc)) rfl
            rw [← e] at hj
            exact no_ends h1 h2 h3 hj
        · refine (whole ?_ (by simp)).elim
          refine red_join (red_join hu hi.1 fun s t h1 h2 => ?_) (con_red hu) fun s t h1 h2 => ?_
          · simp at h1 h2
            subst h1 h2
            exact fun z => ha z.symm
          · rw [con_head] at h2
            have : s = b := by
              rw [List.getLast?_append, ← List.cons_append, List.getLast?_append] at h1
              simpa using h1.symm
            simp only [Option.some.injEq] at h2
            subst this h2
            exact hb
theorem nf_led (u i : List Pc) : nf (nf u ++ i ++ con (nf u)) = nf (u ++ i ++ con u) :=
  ((((eqv_nf u).symm.app (.refl i))).app (by rw [← nf_con_nf]; exact (eqv_nf (con u)).symm)).nf
/-- b is a led about -/
def Cj (a b : List Pc) : Prop := ∃ u, nf (u ++ a ++ con u) = nf b
theorem conj_rot {i j : List Pc} (hi : Cyc i) (hj : Cyc j) (h : Cj i j) : Rot i j := by
  obtain ⟨u, e⟩ := h
  refine conj_rot0 (nf u).length (nf u) i j rfl (nf_red u) hi hj ?_
  rw [← red_nf hj.1, ← e]
  exact ((((eqv_nf u).symm.app (.refl i))).app (by rw [← nf_con_nf]; exact (eqv_nf (con u)).symm)).nf
theorem Cj.of {a b : List Pc} (h : nf a = nf b) : Cj a b := ⟨[], by simpa [con] using h⟩
theorem Cj.trans {a b c : List Pc} (h : Cj a b) (g : Cj b c) : Cj a c := by
  obtain ⟨u, e⟩ := h
  obtain ⟨v, f⟩ := g
  refine ⟨v ++ u, ?_⟩
  rw [← f]
  have := nf_mid v (con v) (nf_eqv e)
  simpa [con_app] using this
theorem Cj.symm {a b : List Pc} (h : Cj a b) : Cj b a := by
  obtain ⟨u, e⟩ := h
  refine ⟨con u, ?_⟩
  have h1 := nf_mid (con u) (con (con u)) (nf_eqv e).symm
  rw [h1, con_con]
  have h2 := (((eqv_con' u).app (Eqv.refl a)).app (eqv_con' u)).nf
  simpa using h2
theorem Rot.cj {a b : List Pc} (h : Rot a b) : Cj a b := by
  obtain ⟨x, y, rfl, rfl⟩ := h
  refine ⟨con x, ?_⟩
  rw [con_con]
  have := ((eqv_con' x).app (Eqv.refl (y ++ x))).nf
  simpa using this
theorem rot_led (o c : List Pc) : Cj c (o ++ c ++ con o) := ⟨o, rfl⟩
/-- the least of all beginnings -/
def Lst (i m : List Pc) : Prop := Rot i m ∧ ∀ x, Rot i x → plt x m = false
theorem Lst.eq {i j m n : List Pc} (h : Lst i m) (g : Lst j n) (r : Rot i j) : m = n :=
  ord_tri (g.2 m (r.symm.trans h.1)) (h.2 n (r.trans g.1))
def IsRing (c m : List Pc) : Prop := ∃ i, Cyc i ∧ Cj i c ∧ Lst i m
theorem IsRing.eq {c d m n : List Pc} (h : IsRing c m) (g : IsRing d n) (r : Cj c d) : m = n := by
  obtain ⟨i, ci, hi, li⟩ := h
  obtain ⟨j, cj, hj, lj⟩ := g
  exact li.eq lj (conj_rot ci cj ((hi.trans r).trans hj.symm))
theorem IsRing.cj {c m : List Pc} (h : IsRing c m) : Cj m c := by
  obtain ⟨i, ci, hi, li⟩ := h
  exact li.1.cj.symm.trans hi
theorem IsRing.cyc {c m : List Pc} (h : IsRing c m) : Cyc m := by
  obtain ⟨i, ci, hi, li⟩ := h
  exact ci.rt li.1
theorem IsRing.own {c m : List Pc} (h : IsRing c m) : IsRing m m := by
  obtain ⟨i, ci, hi, li⟩ := h
  exact ⟨m, ci.rt li.1, .of rfl, .refl _, fun x r => li.2 x (li.1.trans r)⟩
/-- a least one among the first n beginnings -/
def Low (i : List Pc) (n k : Nat) : Prop := k ≤ i.length ∧ ∀ j, j < n → plt (i.drop j ++ i.take j) (i.drop k ++ i.take k) = false
theorem Low.all {i : List Pc} {k : Nat} (h : Low i i.length k) : Lst i (i.drop k ++ i.take k) := by
  refine ⟨rot_at i k, fun x r => ?_⟩
  rcases r.cut with z | ⟨j, hj, z⟩
  · subst z
    cases x with
    | nil => simp; exact ord_irr _
    | cons p x =>
      have := h.2 0 (by simp)
      simpa using this
  · subst z
    exact h.2 j hj
/-! ### name = f(..), a new list or a thing -/
variable [KC]
section
variable {X : Cx} {E : XK} {e : Expr} {es : List Expr} {pos p : Pos} {wl : WL} {k : Nat} {f : Addr} {fd : FuncData} {ps : List Str} {sp : Spec} {x : Str}
def setV (q : DEnds) (ρ : Ev) (i : Nat) : Rt → Prop
  | .new (.lst xs) => q.nx (ρ.set i (.own false (.lst xs)))
  | .new _ => False
  | .val d => q.nx (ρ.set i (.fz d))
  | .newT d => q.nx (ρ.set i (.fz d))
def wsSetV (i : Nat) (sp : Spec) (wl : WL) : WS := fun q ρ => wl q.ex ρ fun ds => Ask sp ds q.ex (setV q ρ i) ⟨⟩
theorem sd_setV (i : Nat) {y : Str} {p2 spos : Pos} (hN : X.N.Nodup) (G : FnOk X.prog X.w X.K X.mg X.base (L2N.CX X.prog X.w) k f fd ps (spOf X.mg sp)) (hr : Room k X.A) (xk : XOk X E) (hg : Gl X x) (hm : X.mg x = some (.ref f)) (hk : PySem.W.keepIn X.K (.ref f) = true) (hb : Binds X.K fd ps [])
    (ha : AD X E (e :: es) wl) (hdb : (x == ("__debug__" : Str)) = false := by decide) (he : starEach (e :: es) X.env = (false, eval e X.env) :: starEach es X.env := by rfl) (hpl : (backTo pos (starEach es X.env)).any (·.1) = false := by rfl)
    (hi : X.N[i]? = some y := by rfl) (hx : Loc X.env.scope y := by first | exact Or.inl rfl | exact Or.inr rfl) (hs : swapsWith (.Call (.Name x p) (e :: es) [] pos) (some (.Name y p2)) spos.line X.env = pure false := by rfl)
    (hf : X.fn y = true ∨ X.env.scope.names.lookup y = some .local := by first | exact .inl rfl | exact .inr rfl) : SD X E (.Assign [.Name y p2] (.Call (.Name x p) (e :: es) [] pos) spos) (wsSetV i sp wl) := by
  obtain ⟨t, pt, s⟩ := ha.ex
  refine ⟨_, ps_set hN hi hx (pe_call G hr hg hm hk hb .nil xk.pass pt hdb he hpl) hs hf, fun q ρ hw F σ H S D rp o => ?_⟩
  refine s q.ex ρ _ hw F σ H S _ rp (o.exOk rp) fun ds vs H1 S1 q1 g1 h1 => ?_
  refine ⟨ds, S1, q.ex, _, ⟨g1.sh, (rp.grow g1).fg.tb⟩, by rw [List.append_nil]; exact h1, q1, fun r v H2 S2 q2 g2 h2 => ?_, fun n C H2 S2 xn hC g2 => (o.exOk rp) n C H2 S2 xn hC (g1.trans g2)⟩
  cases r with
  | val d => exact o.nx _ _ H2 S2 q2 ((rp.grow (g1.trans g2)).set h2)
  | newT d => exact o.nx _ _ H2 S2 q2 ((rp.grow (g1.trans g2)).set h2.1)
  | new c =>
    cases c with
    | dct _ _ => exact q2.elim
    | obj _ _ _ => exact q2.elim
    | lst xs =>
      obtain ⟨p, u, rfl, z0, z1, z2, ws, rfl, z3⟩ := h2
      exact o.nx _ _ H2 S2 q2 ((rp.grow (g1.trans g2)).setOwn z1 z2 ⟨ws, rfl, z3⟩ (fg_free rp.fg (g1.freeH z0)) (own_ne rp (g1.freeH z0)))
end
end NL

/-! Sets of texts: made of a text's signs or of a list of texts, sorted, counted. -/
namespace NL
open PySem PySem.Spec L2
open PyProof.Rows hiding St
open PySem.Froz (TxOk sObj SD addTx tailTx sing is_str add_ok add_x get_upd)
section
variable {P : Program} {w : World} {A : Around} {E : Value → Shared → Prop} {s : Shared} {h h' : Heap} {a : Addr} {l : List Str} {D : PySem.Froz.SD}
/-- the table rises and can be walked -/
def Rl (w : World) (D : PySem.Froz.SD) : Prop := Ris D.2.2.place.toList ∧ (w.params.followText "set-order" = true ∨ D.2.2.led = true)
theorem add_rl (x : Int) (v : Value) (r : Rl w D) : Rl w (addTx x v D) := by
  obtain ⟨es, ep, t⟩ := D
  obtain ⟨r1, r2⟩ := r
  have q1 := layNew_ris t es x v r1
  have q2 := layNew_led t es x v
  unfold addTx
  dsimp only
  generalize layNew t es x v = Z at q1 q2 ⊢
  obtain ⟨es1, t1, b, gave⟩ := Z
  dsimp only at q1 q2 ⊢
  have q3 : Rl w (es1, ep, if t1.plain = true then { t1 with plain := false } else t1) := by
    split
    · exact ⟨q1, r2.imp id fun z => by show t1.led = true; rw [q2]; exact z⟩
    · exact ⟨q1, r2.imp id fun z => by show t1.led = true; rw [q2]; exact z⟩
  generalize (if t1.plain = true then { t1 with plain := false } else t1) = t2 at q3 ⊢
  unfold tailTx
  split
  · exact ⟨relayAll_ris t2 es1 _, q3.2.imp id fun z => (relayAll_led t2 es1 _).trans z⟩
  · exact q3
/-- the set of the texts l stands at a -/
def TxS (P : Program) (w : World) (h : Heap) (a : Addr) (l : List Str) : Prop := l.Nodup ∧ ∃ D, h.get? a = some (sObj "set" D) ∧ TxOk P w D l ∧ Rl w D
theorem TxS.at (T : TxS P w h a l) (k : ∀ o, h.get? a = some o → h'.get? a = some o) : TxS P w h' a l := by
  obtain ⟨n, D, e, x, r⟩ := T
  exact ⟨n, D, k _ e, x, r⟩
theorem TxS.new (e : h.get? a = some { cls := .type "set", dict := none, data := .set #[] 0 (.fresh 0 0 (!w.params.followText "set-order")) }) : TxS P w h a [] :=
  ⟨.nil, (#[], 0, .fresh 0 0 (!w.params.followText "set-order")), e, .nil (by rfl), List.Pairwise.nil, by
    show _ ∨ (!w.params.followText "set-order") = true
    cases w.params.followText "set-order"
    · exact .inr rfl
    · exact .inl rfl⟩
/-- a text that is in already -/
theorem add_old {k : Str} {u : Tok} {Q : Bool → Shared → Prop} (e : s.heap.get? a = some (sObj "set" D)) (x : TxOk P w D l) (hk : k ∈ l) (hb : l.length < scanBound) (q : Q false s) : wpAny (model P w) A (setAddHashed a (.str k u) (hashStr w k)) Q E s := by
  obtain ⟨es, ep, t⟩ := D
  have is : (strKind P w).is k (.str k u) = true := is_str k u
  have el : ElemsOf (strKind P w) es.toList := x.el
  have fit : t.fits es.size = true := x.fit
  have few : es.size < scanBound := by have : es.size = l.length := x.sz; omega
  have dat : (sObj "set" (es, ep, t)).data = .set es ep t := rfl
  obtain ⟨z, hz, pz⟩ := (x.mem k).mp hk
  unfold setAddHashed setAddHashedIn
  refine wpAny_holding (wpAny_bind (wpAny_setState_of e dat fit ?_))
  dsimp only
  rw [byScan_of rfl few el]
  simp only [↓reduceIte]
  unfold setAddByScan
  refine wpAny_bind (wpAny_bind (wpAny_rule (wpAny_bind ?_)))
  refine wpAny_setScan_of (knd := strKind P w) (k := k) is e dat fit el ?_
  cases hj : List.findIdx? (fun e => (strKind P w).is k e.2) es.toList with
  | none =>
    have c := List.findIdx?_eq_none_iff.mp hj z hz
    rw [pz] at c
    cases c
  | some j =>
    dsimp only
    exact wpAny_pure (wpAny_pure q)
def dedup (l : List Str) (k : Str) : List Str := if k ∈ l then l else k :: l
theorem dedup_mono : ∀ (l acc : List Str), acc.length ≤ (l.foldl dedup acc).length
  | [], acc => Nat.le_refl _
  | k :: l, acc => by
    rw [List.foldl_cons]
    refine Nat.le_trans ?_ (dedup_mono l (dedup acc k))
    unfold dedup
    split
    · exact Nat.le_refl _
    · simp
theorem dedup_few : ∀ (l acc : List Str), (l.foldl dedup acc).length ≤ acc.length + l.length
  | [], acc => by simp
  | k :: l, acc => by
    have h1 := dedup_few l (dedup acc k)
    have h2 : (dedup acc k).length ≤ acc.length + 1 := by
      unfold dedup
      split <;> simp
    simp only [List.foldl_cons, List.length_cons]
    omega
theorem dedup_len (l : List Str) (k : Str) : (dedup l k).length ≤ l.length + 1 := by
  unfold dedup
  split <;> simp
/-- one more text -/
theorem add_any {k : Str} {u : Tok} {Q : Bool → Shared → Prop} (T : TxS P w s.heap a l) (hb : l.length + 1 < scanBound)
    (q : ∀ b h', (∀ b o, b ≠ a → s.heap.get? b = some o → h'.get? b = some o) → TxS P w h' a (dedup l k) → Q b { s with heap := h' }) : wpAny (model P w) A (setAddHashed a (.str k u) (hashStr w k)) Q E s := by
  obtain ⟨n, D, e, x, r⟩ := T
  by_cases hk : k ∈ l
  · refine add_old e x hk (by omega) ?_
    have := q false s.heap (fun _ _ _ z => z) (by unfold dedup; rw [if_pos hk]; exact ⟨n, D, e, x, r⟩)
    exact this
  · refine add_x e x hk hb ?_
    have e2 := get_upd (sObj "set" (addTx (hashStr w k) (.str k u) D)) e rfl
    refine q true _ (fun b o hb z => (Heap.get?_update_ne _ _ _ _ hb).trans z) ?_
    unfold dedup
    rw [if_neg hk]
    exact ⟨List.nodup_cons.mpr ⟨hk, n⟩, _, e2, add_ok u x, add_rl _ _ r⟩
end
section
variable {P : Program} {w : World} {A : Around} {E : Value → Shared → Prop} {s : Shared} {R : Result → Shared → Prop}
/-- the loop of set(..) over texts -/
theorem set_loop {I : Addr} {fp wr : List Addr} {G : Array GenState → Array GenState → Prop} {n : Nat} {Pv : Nat → Value → Prop} {St : Nat → Shared → Prop} (W : WalksS P w A.in1 I fp wr G n Pv St) (a : Addr) (ha : a ∉ fp) (xs : List Str) (hn : n = xs.length) (hb : (xs.foldl dedup []).length + 1 < scanBound)
    (hv : ∀ i v, Pv i v → ∃ k t, xs[i]? = some k ∧ v = .str k t) : ∀ (m i : Nat) (s : Shared) (l : List Str), n - i = m → i ≤ n → St i s → l = (xs.take i).foldl dedup [] → TxS P w s.heap a l →
      (∀ s', Moved (a :: wr) G s s' → TxS P w s'.heap a (xs.foldl dedup []) → R (.ok (.ret .none)) s') → codeAny (model P w) A (.builtin "set.update.loop" ⟨[.ref a, .ref I], []⟩) R s := by
  have hw : a ∉ wr := fun z => ha (W.sub _ z)
  intro m
  induction m with
  | zero =>
    intro i s l hm hi st hl T hR
    obtain rfl : i = n := by omega
    refine codeAny_builtin F.entry_set_update_loop ?_
    rw [Around.under_plainId F.plain_set_update_loop _]
    refine wpAny_bind (m := pyNext (.ref I)) (W.done s _ _ st fun s' mv => ?_)
    have et : xs.take i = xs := List.take_of_length_le (by omega)
    rw [et] at hl
    subst hl
    refine wpAny_pure (hR s' (mv.mono fun b z => List.mem_cons_of_mem _ z) (T.at fun o z => mv.heap a o hw z))
  | succ m ih =>
    intro i s l hm hi st hl T hR
    have hlt : i < n := by omega
    refine codeAny_builtin F.entry_set_update_loop ?_
    rw [Around.under_plainId F.plain_set_update_loop _]
    refine wpAny_bind (m := pyNext (.ref I)) (W.item i s _ _ hlt st fun v s' hp st' mv => ?_)
    obtain ⟨k, t, hk, rfl⟩ := hv i v hp
    have T' : TxS P w s'.heap a l := T.at fun o z => mv.heap a o hw z
    have hll : l.length ≤ (xs.foldl dedup []).length := by
      have e : xs.foldl dedup [] = (xs.drop i).foldl dedup l := by rw [hl, ← List.foldl_append, List.take_append_drop]
      rw [e]
      exact dedup_mono _ _
    refine wpAny_bind (m := holding [Value.str k t] (setAdd a (.str k t))) (wpAny_holding ?_)
    unfold setAdd
    refine wpAny_holding (wpAny_bind ((strKind P w).pyHash (k := k) (is_str _ _) ?_))
    refine add_any (s := { s' with toks := s'.toks + 1 }) T' (by omega) fun b h' keep T2 => ?_
    refine wpAny_pure ⟨plainId_quiet F.plain_set_update_loop _, ih (i + 1) _ (dedup l k) (by omega) hlt (W.frame _ s' _ _ st' (Nat.le_succ _) fun b hb o e => keep b o (fun z => ha (by rw [← z]; exact hb)) e) ?_ T2 fun s'' mv' T3 => ?_⟩
    · rw [List.take_add_one, hk, List.foldl_append, ← hl]
      rfl
    · exact hR s'' (Moved.trans W.gtrans ((mv.mono fun b z => List.mem_cons_of_mem _ z).then_heap (Nat.le_succ _) fun b o hb e => keep b o (fun z => hb (by rw [z]; exact List.mem_cons_self)) e) mv') T3
set_option maxHeartbeats 8000000 in
/-- set(xs), xs a list of texts -/
theorem set_of_list {ls : Addr} {its : Array Value} {xs : List Str} {Q : Value → Shared → Prop} (hh : A.handled = none) (hl : s.heap.IsList ls its) (hi : StrsAre its.toList xs) (hb : (xs.foldl dedup []).length + 1 < scanBound)
    (q : ∀ (h' : Heap) (tk : Nat), TxS P w h' s.heap.objs.size (xs.foldl dedup []) → (∀ b o, s.heap.get? b = some o → h'.get? b = some o) → Q (.ref s.heap.objs.size) { s with heap := h', toks := tk }) :
    wpAny (model P w) A (call (.type "set") [.ref ls]) Q E s := by
  have n0 : its.size = xs.length := by
    have := StrsAre.len_eq hi
    rw [← this, Array.length_toList]
  obtain ⟨c, tl, hmro⟩ := F.called_set.mro
  have f1 := F.called_set.made
  have f2 := F.called_set.sub
  have f3 := F.called_set.notType
  have f4 := F.called_set.canCreate
  have f5 := F.typeCall_set_1 (.ref ls)
  refine wpAny_call (codeAny_of_tree ?_)
  show wpAny _ _ (callAny (.type "set") _) _ _ _
  refine wpAny_pure ⟨Code.quiet_builtin _ (by decide +kernel), codeAny_builtin F.entry_type_call ?_⟩
  rw [Around.under_plain (weight_type_call_type "set" [.ref ls] []) rfl]
  repeat (any_goals (first | assumption | wp_step))
  refine codeAny_mono (code_set_led1 (.ref ls) (E := E) (Q₁ := fun o s₁ => o = .ref s.heap.objs.size ∧ s₁ = { s with heap := s.heap.push { cls := .type "set", dict := none, data := .set #[] 0 (.fresh 0 0 (!w.params.followText "set-order")) } }) ⟨rfl, rfl⟩) fun r s₁ hr => ?_
  cases r with
  | error e => exact hr
  | ok fl =>
    cases fl with
    | ret o1 =>
      obtain ⟨rfl, rfl⟩ := hr
      have hS : (s.heap.push { cls := .type "set", dict := none, data := .set #[] 0 (.fresh 0 0 (!w.params.followText "set-order")) }).get? s.heap.objs.size = some { cls := .type "set", dict := none, data := .set #[] 0 (.fresh 0 0 (!w.params.followText "set-order")) } := Heap.get?_push_size _ rfl
      have hT : Shared.TypeIs { s with heap := s.heap.push { cls := .type "set", dict := none, data := .set #[] 0 (.fresh 0 0 (!w.params.followText "set-order")) } } (.ref s.heap.objs.size) "set" := ⟨_, hS, rfl⟩
      have hli := F.called_set.init.lookup
      have hbi := F.called_set.init.bind (.ref s.heap.objs.size)
      repeat (any_goals (first | assumption | wp_step))
      refine codeAny_mono (codeAny_call_builtin (R := wants (fun r s₂ => r = .none ∧ ∃ h' tk, s₂ = { s with heap := h', toks := tk } ∧ TxS P w h' s.heap.objs.size (xs.foldl dedup []) ∧ (∀ b o, s.heap.get? b = some o → h'.get? b = some o)) E) F.called_set.init.plain F.entry_set_init (check_set_init_1 hT ?_)) fun r₂ s₂ hr₂ => ?_
      · obtain ⟨ol, hol, hcl, nl, hdl⟩ := hl
        obtain ⟨ocls, odict, odata, oslots⟩ := ol
        simp only at hcl hdl
        subst hcl hdl
        have hol' : (s.heap.push { cls := .type "set", dict := none, data := .set #[] 0 (.fresh 0 0 (!w.params.followText "set-order")) }).get? ls = some { cls := .type "list", dict := odict, data := .seq its nl, slots := oslots } := Heap.get?_push_of_some _ hol
        have g1 := F.sub_list_set
        have g2 := F.sub_list_frozenset
        have g3 : (Value.type "list" == Value.type "dict") = false := by decide
        have hl1 : (s.heap.push { cls := .type "set", dict := none, data := .set #[] 0 (.fresh 0 0 (!w.params.followText "set-order")) }).IsList ls its := ⟨_, hol', rfl, nl, rfl⟩
        unfold Builtin.«set.__init__» noKeywords Builtin.Frozenset.updateFrom
        generalize hPI : pyIter = PI
        wp_walk
        subst hPI
        refine wpAny_pyIter_list hl1 ?_
        refine wpAny_bind (wpAny_runValue ?_)
        have hlt : ls < s.heap.objs.size := Heap.lt_size hol
        have hz : (s.heap.push { cls := .type "set", dict := none, data := .set #[] 0 (.fresh 0 0 (!w.params.followText "set-order")) }).objs.size = s.heap.objs.size + 1 := Heap.size_push ..
        have ne1 : ls ≠ (s.heap.push { cls := .type "set", dict := none, data := .set #[] 0 (.fresh 0 0 (!w.params.followText "set-order")) }).objs.size := by rw [hz]; exact Nat.ne_of_lt (Nat.lt_succ_of_lt hlt)
        have nin : s.heap.objs.size ∉ [(s.heap.push { cls := .type "set", dict := none, data := .set #[] 0 (.fresh 0 0 (!w.params.followText "set-order")) }).objs.size, ls] := by
          rw [hz]
          simp only [List.mem_cons, List.not_mem_nil, or_false, not_or]
          exact ⟨Nat.ne_of_lt (Nat.lt_succ_self _), (Nat.ne_of_lt hlt).symm⟩
        refine set_loop ((Walks.list (by simp [hh]) _ ls ne1 its).toS) s.heap.objs.size nin xs n0 hb (fun i v hv => ?_) (its.size - 0) 0 _ [] (by omega) (Nat.zero_le _) ⟨⟨_, Heap.get?_push_size _ rfl, rfl, rfl⟩, (hl1.push _)⟩ rfl ?_ fun s' mv T => ?_
        · obtain ⟨k, t, e, hk⟩ := StrsAre.item hi i v (by rw [Array.getElem?_toList]; exact hv)
          exact ⟨k, t, hk, e⟩
        · refine TxS.new ?_
          exact Heap.get?_push_of_some _ hS
        · obtain ⟨h', g', d', tk', os'⟩ := s'
          have e1 : g' = s.gens := mv.gens
          have e2 : d' = s.drawn := mv.drawn
          have e3 : os' = s.os := mv.os
          subst e1 e2 e3
          show wpAny _ _ _ _ _ _
          refine wpAny_pure ?_
          show wpAny _ _ (ret Value.none) _ _ _
          refine wpAny_pure ⟨rfl, h', tk', rfl, T, fun b o e => ?_⟩
          have hb0 : b < s.heap.objs.size := Heap.lt_size e
          exact mv.heap b o (by simp only [List.mem_cons, List.not_mem_nil, or_false, not_or]; exact ⟨Nat.ne_of_lt hb0, by rw [hz]; exact Nat.ne_of_lt (Nat.lt_succ_of_lt hb0)⟩) (Heap.get?_push_of_some _ (Heap.get?_push_of_some _ e))
      · cases r₂ with
        | error e => exact hr₂
        | ok fl₂ =>
          cases fl₂ with
          | ret r =>
            obtain ⟨rfl, h', tk, rfl, T, keep⟩ := hr₂
            repeat (any_goals (first | assumption | wp_step))
            exact q _ _ T keep
          | _ => exact hr₂.elim
    | _ => exact hr.elim
set_option maxHeartbeats 8000000 in
/-- set(x), x a text -/
theorem set_of_text {x : Str} {tk0 : Tok} {xs : List Str} {Q : Value → Shared → Prop} (hh : A.handled = none) (hx : xs = x.cps.toList.map fun c => ⟨#[c]⟩) (hb : (xs.foldl dedup []).length + 1 < scanBound)
    (q : ∀ (h' : Heap) (tk : Nat), TxS P w h' s.heap.objs.size (xs.foldl dedup []) → (∀ b o, s.heap.get? b = some o → h'.get? b = some o) → Q (.ref s.heap.objs.size) { s with heap := h', toks := tk }) :
    wpAny (model P w) A (call (.type "set") [.str x tk0]) Q E s := by
  have n0 : x.cps.size = xs.length := by rw [hx, List.length_map, Array.length_toList]
  obtain ⟨c, tl, hmro⟩ := F.called_set.mro
  have f1 := F.called_set.made
  have f2 := F.called_set.sub
  have f3 := F.called_set.notType
  have f4 := F.called_set.canCreate
  have f5 := F.typeCall_set_1 (.str x tk0)
  refine wpAny_call (codeAny_of_tree ?_)
  show wpAny _ _ (callAny (.type "set") _) _ _ _
  refine wpAny_pure ⟨Code.quiet_builtin _ (by decide +kernel), codeAny_builtin F.entry_type_call ?_⟩
  rw [Around.under_plain (weight_type_call_type "set" [.str x tk0] []) rfl]
  repeat (any_goals (first | assumption | wp_step))
  refine codeAny_mono (code_set_led1 (.str x tk0) (E := E) (Q₁ := fun o s₁ => o = .ref s.heap.objs.size ∧ s₁ = { s with heap := s.heap.push { cls := .type "set", dict := none, data := .set #[] 0 (.fresh 0 0 (!w.params.followText "set-order")) } }) ⟨rfl, rfl⟩) fun r s₁ hr => ?_
  cases r with
  | error e => exact hr
  | ok fl =>
    cases fl with
    | ret o1 =>
      obtain ⟨rfl, rfl⟩ := hr
      have hS : (s.heap.push { cls := .type "set", dict := none, data := .set #[] 0 (.fresh 0 0 (!w.params.followText "set-order")) }).get? s.heap.objs.size = some { cls := .type "set", dict := none, data := .set #[] 0 (.fresh 0 0 (!w.params.followText "set-order")) } := Heap.get?_push_size _ rfl
      have hT : Shared.TypeIs { s with heap := s.heap.push { cls := .type "set", dict := none, data := .set #[] 0 (.fresh 0 0 (!w.params.followText "set-order")) } } (.ref s.heap.objs.size) "set" := ⟨_, hS, rfl⟩
      have hli := F.called_set.init.lookup
      have hbi := F.called_set.init.bind (.ref s.heap.objs.size)
      repeat (any_goals (first | assumption | wp_step))
      refine codeAny_mono (codeAny_call_builtin (R := wants (fun r s₂ => r = .none ∧ ∃ h' tk, s₂ = { s with heap := h', toks := tk } ∧ TxS P w h' s.heap.objs.size (xs.foldl dedup []) ∧ (∀ b o, s.heap.get? b = some o → h'.get? b = some o)) E) F.called_set.init.plain F.entry_set_init (check_set_init_1 hT ?_)) fun r₂ s₂ hr₂ => ?_
      · have g1 := F.sub_str_set
        have g2 := F.sub_str_frozenset
        have g3 : (Value.type "str" == Value.type "dict") = false := by decide
        unfold Builtin.«set.__init__» noKeywords Builtin.Frozenset.updateFrom
        generalize hPI : pyIter = PI
        wp_walk
        subst hPI
        refine wpAny_pyIter_str fun o St W hst => ?_
        refine wpAny_bind (wpAny_runValue ?_)
        have hz : (s.heap.push { cls := .type "set", dict := none, data := .set #[] 0 (.fresh 0 0 (!w.params.followText "set-order")) }).objs.size = s.heap.objs.size + 1 := Heap.size_push ..
        have nin : s.heap.objs.size ∉ [(s.heap.push { cls := .type "set", dict := none, data := .set #[] 0 (.fresh 0 0 (!w.params.followText "set-order")) }).objs.size] := by
          rw [hz]
          simp only [List.mem_cons, List.not_mem_nil, or_false]
          exact Nat.ne_of_lt (Nat.lt_succ_self _)
        refine set_loop ((W _ (by simp [hh])).toS) s.heap.objs.size nin xs n0 hb (fun i v hv => ?_) (x.cps.size - 0) 0 _ [] (by omega) (Nat.zero_le _) hst rfl ?_ fun s' mv T => ?_
        · obtain ⟨c, u, hc, e⟩ := hv
          refine ⟨⟨#[c]⟩, u, ?_, e⟩
          rw [hx, List.getElem?_map, Array.getElem?_toList, hc]
          rfl
        · refine TxS.new ?_
          exact Heap.get?_push_of_some _ hS
        · obtain ⟨h', g', d', tk', os'⟩ := s'
          have e1 : g' = s.gens := mv.gens
          have e2 : d' = s.drawn := mv.drawn
          have e3 : os' = s.os := mv.os
          subst e1 e2 e3
          show wpAny _ _ _ _ _ _
          refine wpAny_pure ?_
          show wpAny _ _ (ret Value.none) _ _ _
          refine wpAny_pure ⟨rfl, h', tk', rfl, T, fun b o e => ?_⟩
          have hb0 : b < s.heap.objs.size := Heap.lt_size e
          exact mv.heap b o (by simp only [List.mem_cons, List.not_mem_nil, or_false, not_or]; exact ⟨Nat.ne_of_lt hb0, by rw [hz]; exact Nat.ne_of_lt (Nat.lt_succ_of_lt hb0)⟩) (Heap.get?_push_of_some _ (Heap.get?_push_of_some _ e))
      · cases r₂ with
        | error e => exact hr₂
        | ok fl₂ =>
          cases fl₂ with
          | ret r =>
            obtain ⟨rfl, h', tk, rfl, T, keep⟩ := hr₂
            repeat (any_goals (first | assumption | wp_step))
            exact q _ _ T keep
          | _ => exact hr₂.elim
    | _ => exact hr.elim
end
/-! ### the order of texts -/
def leS (a b : Str) : Bool := decide (a.cps.toList ≤ b.cps.toList)
theorem leS_eq : PySem.W.dataLe false (fun s : Str => PyData.str s) = leS := PySem.W.dataLe_str fun s => s
theorem leS_total : PySem.W.TotalLe leS := by
  rw [← leS_eq]
  exact PySem.W.sortLe_total _ _ _
theorem leS_anti {a b : Str} (h : leS a b = true) (g : leS b a = true) : a = b := by
  have h := of_decide_eq_true h
  have g := of_decide_eq_true g
  exact PySem.W.str_of_cps (List.le_antisymm h g)
theorem sorted_eq : ∀ {l m : List Str}, l.Perm m → l.Pairwise (fun a b => leS a b = true) → m.Pairwise (fun a b => leS a b = true) → l = m
  | [], m, p, _, _ => p.nil_eq
  | x :: l, [], p, _, _ => absurd p.length_eq (by simp)
  | x :: l, y :: m, p, h, g => by
    obtain ⟨h1, h2⟩ := List.pairwise_cons.mp h
    obtain ⟨g1, g2⟩ := List.pairwise_cons.mp g
    have e : x = y := by
      rcases List.mem_cons.mp (p.mem_iff.mp (List.mem_cons_self (a := x) (l := l))) with z | z
      · exact z
      · rcases List.mem_cons.mp (p.mem_iff.mpr (List.mem_cons_self (a := y) (l := m))) with z' | z'
        · exact z'.symm
        · exact leS_anti (h1 y z') (g1 x z)
    subst e
    rw [sorted_eq (List.Perm.cons_inv p) h2 g2]
theorem sort_perm {l m : List Str} (p : l.Perm m) : l.mergeSort leS = m.mergeSort leS :=
  sorted_eq ((List.mergeSort_perm _ _).trans (p.trans (List.mergeSort_perm _ _).symm)) (PySem.W.sort_pairwise leS_total l) (PySem.W.sort_pairwise leS_total m)
theorem perm_of_mem : ∀ {l m : List Str}, l.Nodup → (∀ x ∈ l, x ∈ m) → m.length = l.length → m.Perm l
  | [], m, _, _, e => by
    have : m = [] := List.eq_nil_of_length_eq_zero (by simpa using e)
    subst this
    exact .nil
  | x :: l, m, n, h, e => by
    obtain ⟨n1, n2⟩ := List.nodup_cons.mp n
    have hx := h x (by simp)
    have p := List.perm_cons_erase hx
    have le := p.length_eq
    simp only [List.length_cons] at le e
    refine p.trans (List.Perm.cons x (perm_of_mem n2 (fun y hy => ?_) (by omega)))
    exact (List.mem_erase_of_ne (fun z => n1 (by rw [← z]; exact hy))).mpr (h y (by simp [hy]))
def strV : Value → Str
  | .str k _ => k
  | _ => ⟨#[]⟩
section
variable {P : Program} {w : World} {A : Around} {E : Value → Shared → Prop} {s : Shared} {a : Addr} {l : List Str}
theorem strs_all : ∀ {vs : List Value}, (∀ v ∈ vs, ∃ k t, v = Value.str k t) → StrsAre vs (vs.map strV)
  | [], _ => .nil
  | v :: vs, h => by
    obtain ⟨k, t, rfl⟩ := h v (by simp)
    exact .cons k t (strs_all fun u hu => h u (by simp [hu]))
theorem each_strs : ∀ {vs : List Value} {ss : List Str}, StrsAre vs ss → PySem.W.EachIs (fun v (k : Str) => ∃ t, v = Value.str k t) vs ss
  | _, _, .nil => .nil
  | _, _, .cons k t r => .cons ⟨t, rfl⟩ (each_strs r)
theorem strs_each : ∀ {vs : List Value} {ss : List Str}, PySem.W.EachIs (fun v (k : Str) => ∃ t, v = Value.str k t) vs ss → StrsAre vs ss
  | _, _, .nil => .nil
  | _, _, .cons ⟨t, e⟩ r => by subst e; exact .cons _ t (strs_each r)
/-- sorted(s), s a set of texts -/
theorem sorted_txs {Q : Value → Shared → Prop} (T : TxS P w s.heap a l) (hh : A.handled = none) (hb : l.length < scanBound) (hu : A.units + 64 < cLine)
    (q : ∀ s' p out c, (∀ b o, s.heap.get? b = some o → s'.heap.get? b = some o) → s'.gens = s.gens → s'.os = s.os → s.heap.objs.size ≤ p → s'.heap.get? p = some (seqObj "list" (List.toArray out) c) → StrsAre out (l.mergeSort leS) → Q (.ref p) s') :
    wpAny (model P w) A (call (.builtin "sorted") [.ref a]) Q E s := by
  obtain ⟨nd, ⟨es, ep, t⟩, ho, x, r1, r2⟩ := T
  have sz : es.size = l.length := x.sz
  have fit : t.fits es.size = true := x.fit
  refine Calls.call_function_entry kind_sorted plain_sorted entry_sorted (args_sorted1 _) ?_
  unfold Builtin.«sorted»
  refine wpAny_bind (m := checkCount "sorted" 1 1 _) (wpAny_pure ?_)
  refine wpAny_bind (collect_set (A := A.in1) hh ⟨_, ho, rfl, rfl⟩ fit (by show es.size < scanBound; omega) r1 r2 fun s1 vs keep hz hg hos pm => ?_)
  have vl : vs.length = l.length := by rw [pm.length_eq, List.length_map, Array.length_toList]; exact sz
  have key : ∀ e ∈ es.toList, ∃ k u, e.2 = Value.str k u := fun e he => by
    obtain ⟨⟨k, hk, _⟩, _⟩ := x.el e he
    have hk' : Value.isStrOf k e.2 = true := hk
    cases h2 : e.2 with
    | str k' u => exact ⟨k', u, rfl⟩
    | _ => rw [h2] at hk'; simp [Value.isStrOf] at hk'
  have va : ∀ v ∈ vs, ∃ k u, v = Value.str k u := fun v hv => by
    obtain ⟨e, he, z⟩ := List.mem_map.mp (pm.mem_iff.mp hv)
    obtain ⟨k, u, z2⟩ := key e he
    exact ⟨k, u, by rw [← z]; exact z2⟩
  have hs := strs_all va
  have pl : (vs.map strV).Perm l := by
    refine perm_of_mem nd (fun k hk => ?_) (by rw [List.length_map]; exact vl)
    obtain ⟨e, he, z⟩ := (x.mem k).mp hk
    have z' : Value.isStrOf k e.2 = true := z
    obtain ⟨k', u, z2⟩ := key e he
    rw [z2] at z'
    have : k' = k := by simpa [Value.isStrOf] using z'
    subst this
    exact List.mem_map.mpr ⟨e.2, pm.mem_iff.mpr (List.mem_map.mpr ⟨e, he, rfl⟩), by rw [z2]; rfl⟩
  have vz : vs.length ≤ sizeLine := by
    rw [vl, sizeLine_eq]
    have : scanBound = 4096 := rfl
    omega
  refine wpAny_bind (wpAny_newList ?_ vz)
  have hoL : (s1.heap.push (seqObj "list" vs.toArray 0)).get? s1.heap.objs.size = some (seqObj "list" vs.toArray 0) := Heap.get?_push_size _ rfl
  have ee := each_strs hs
  refine wpAny_bind (wpAny_holding (PySem.W.list_sort_data (s := { s1 with heap := s1.heap.push (seqObj "list" vs.toArray 0) }) (R := fun v (k : Str) => ∃ t, v = Value.str k t) (bs := vs.map strV) (enc := fun k : Str => PyData.str k) hoL ee (ee.mono fun v k z => ?_) ?_ ?_ (by rw [List.length_map]; exact vz) ?_ fun out hl h1 => ?_))
  · obtain ⟨u, rfl⟩ := z
    exact ⟨[], .str k u, by simp⟩
  · exact PySem.W.AllAlike.of fun _ _ => rfl
  · exact PySem.W.Sortable.others fun _ => ⟨by simp, fun _ => by simp⟩
  · intro k _
    have d0 : (PyData.str k).depth = 0 := rfl
    rw [d0]
    show A.in1.units + 1 + 0 < cLine
    have : A.in1.units = A.units + 1 := rfl
    omega
  · rw [leS_eq, sort_perm pl] at h1
    obtain ⟨c, hc⟩ := sortedHeap_at (vs := vs) (out := List.toArray out) hoL
    refine wpAny_pure ⟨_, rfl, q _ s1.heap.objs.size out c (fun b u e => ?_) hg hos hz hc (strs_each h1)⟩
    have k1 := keep b u e
    have hlt := Heap.lt_size k1
    show (sortedHeap (s1.heap.push (seqObj "list" vs.toArray 0)) s1.heap.objs.size vs _).get? b = some u
    rw [sortedHeap_old (Nat.ne_of_lt hlt) (by rw [size_push']; exact Nat.lt_succ_of_lt hlt)]
    exact Heap.get?_push_of_some _ k1
end
/-! ### over the layer -/
def TxO (P : Program) (w : World) (a : Addr) (l : List Str) : HO := .ext fun h => TxS P w h a l
theorem txO_new {P : Program} {w : World} {H : Hp} {h : Heap} {a : Addr} {l : List Str} (T : TxS P w h a l) : ObjOk P w H h a (TxO P w a l) := by
  have ⟨_, D, e, _⟩ := T
  exact ⟨T, ⟨_, e⟩, fun h1 h2 p k => TxS.at p k⟩
def signs1 (z : Str) : List Str := z.cps.toList.map fun c => ⟨#[c]⟩
section
variable {X : Cx}
theorem strs_of_vals : ∀ {xs : List Str} {us : List Value}, Vals (xs.map V.str) us → StrsAre us xs
  | [], _, .nil => .nil
  | x :: xs, _, .cons r t => by
    obtain ⟨u, rfl⟩ := r
    exact .cons x u (strs_of_vals t)
theorem vals_of_strs : ∀ {xs : List Str} {us : List Value}, StrsAre us xs → Vals (xs.map V.str) us
  | _, _, .nil => .nil
  | _, _, .cons x u t => .cons ⟨u, rfl⟩ (vals_of_strs t)
def rSetTx (K : PySem.W.Frag) (P : Program) (w : World) : List V → Hp → VK → Prop := fun xs H Q => ∃ v ss, xs = [v] ∧ (ss.foldl dedup []).length + 1 < scanBound ∧ ((∃ z, v = V.str z ∧ ss = signs1 z) ∨ ∃ a, v = V.ref a ∧ SqL K H a (ss.map V.str)) ∧
  ∀ p, H p = none → Q (.ref p) (upd H p (TxO P w p (ss.foldl dedup [])))
theorem cr_setTx (hc : X.calm = true) : CallR X (.type "set") (rSetTx X.K X.prog X.w) := by
  intro pins s σ H vs us Q I r h
  obtain ⟨v, ss, rfl, hb, hv, q⟩ := h
  obtain ⟨u, rfl, ru⟩ := vals1 r
  have fin : ∀ (h' : Heap) (tk : Nat), TxS X.prog X.w h' s.heap.objs.size (ss.foldl dedup []) → (∀ b o, s.heap.get? b = some o → h'.get? b = some o) → EP X pins σ Q (.ref s.heap.objs.size) { s with heap := h', toks := tk } := fun h' tk T keep =>
    ⟨.ref _, upd H s.heap.objs.size (TxO X.prog X.w s.heap.objs.size (ss.foldl dedup [])), I.laid (t' := tk) keep (Nat.le_refl _) (txO_new T), rfl, q _ (I.hok.fresh (Nat.le_refl _))⟩
  rcases hv with ⟨z, rfl, e⟩ | ⟨a, rfl, hs⟩
  · obtain ⟨t, rfl⟩ := ru
    exact set_of_text (I.ok.hd hc) e hb fin
  · cases ru
    obtain ⟨its, rv, hL, hz⟩ := I.list hs
    exact set_of_list (I.ok.hd hc) hL.isList (by simpa using strs_of_vals rv) hb fin
def rSortedTx (P : Program) (w : World) : List V → Hp → VK → Prop := fun vs H Q => ∃ (a : Addr) (l : List Str), vs = [V.ref a] ∧ H a = some (TxO P w a l) ∧ l.length < scanBound ∧ ∀ p, H p = none → Q (.ref p) (upd H p (.lst ((l.mergeSort leS).map V.str)))
theorem cr_sortedTx (hc : X.calm = true) (hu : X.A.units + 64 < cLine) : CallR X (.builtin "sorted") (rSortedTx X.prog X.w) := by
  intro pins s σ H vs us Q I r h
  obtain ⟨a, l, rfl, ha, hb, q⟩ := h
  rw [Vals.ref1 r]
  have T : TxS X.prog X.w s.heap a l := (I.hok a _ ha).1
  refine sorted_txs T (I.ok.hd hc) hb hu fun s' p out c k g o hp hg hs => ?_
  have hlen : ((l.mergeSort leS).map V.str).length ≤ sizeLine := by
    rw [List.length_map, List.length_mergeSort, sizeLine_eq]
    have : scanBound = 4096 := rfl
    omega
  have hn : H p = none := I.hok.fresh hp
  have J : Inv X pins σ (upd H p (.lst ((l.mergeSort leS).map V.str))) { s with heap := s'.heap, gens := s'.gens, drawn := s'.drawn, toks := s'.toks } :=
    I.call (ch := []) (Un.laid k hp hn) (I.hok.laid k hp ⟨hlen, out, c, vals_of_strs hs, hg⟩) (by rw [g]; exact I.bare) (fun _ z => nomatch z)
  have e : s' = { s with heap := s'.heap, gens := s'.gens, drawn := s'.drawn, toks := s'.toks } := by
    cases s'
    cases s
    cases o
    rfl
  rw [e]
  exact ⟨.ref p, _, J, rfl, q p hn⟩
def rLenTx (P : Program) (w : World) : List V → Hp → VK → Prop := fun vs H Q => ∃ (a : Addr) (l : List Str), vs = [V.ref a] ∧ H a = some (TxO P w a l) ∧ l.length < scanBound ∧ Q (.int l.length) H
theorem cr_lenTx : CallR X (.builtin "len") (rLenTx X.prog X.w) := by
  intro pins s σ H vs us Q I r h
  obtain ⟨a, l, rfl, ha, hb, q⟩ := h
  rw [Vals.ref1 r]
  obtain ⟨_, ⟨es, ep, t⟩, ho, x, _⟩ : TxS X.prog X.w s.heap a l := (I.hok a _ ha).1
  have sz : es.size = l.length := x.sz
  have : scanBound = 4096 := rfl
  refine call_len_set ho ⟨rfl, rfl, rfl⟩ rfl x.fit (by show (es.size : Int) < 2 ^ 63; omega) ?_
  exact ⟨.int l.length, H, I.tok _, ⟨_, by rw [← sz]⟩, q⟩
end
variable [KC]
section
variable {X : Cx} {E : XK} {a : Expr} {wa : WE} {x y : Str} {p1 p2 pos pos2 : Pos}
/-- the texts that set(..) takes of a thing -/
def onTx (d : D) (Q : List Str → Prop) : Prop := match d with
  | .str z => ((signs1 z).foldl dedup []).length + 1 < 4096 ∧ Q (signs1 z)
  | .lst xs => ∃ ss : List Str, xs = ss.map D.str ∧ (ss.foldl dedup []).length + 1 < 4096 ∧ Q ss
  | _ => False
def sortSet (ss : List Str) : List Str := (ss.foldl dedup []).mergeSort leS
theorem onTx_sound {K : PySem.W.Frag} {H S : Hp} {d : D} {v : V} {Q : List Str → Prop} (hd : BDat H S d v) (h : onTx d Q) : ∃ ss, (ss.foldl dedup []).length + 1 < scanBound ∧ ((∃ z, v = V.str z ∧ ss = signs1 z) ∨ ∃ a, v = V.ref a ∧ SqL K H a (ss.map V.str)) ∧ Q ss := by
  cases d with
  | str z =>
    cases hd.s
    exact ⟨_, h.1, .inl ⟨z, rfl, rfl⟩, h.2⟩
  | lst xs =>
    obtain ⟨ss, rfl, h1, h2⟩ := h
    obtain ⟨a, ws, rfl, r, z⟩ := hd
    have := z.ofStrs
    subst this
    exact ⟨ss, h1, .inr ⟨a, rfl, .of r⟩, h2⟩
  | _ => exact h.elim
/-- sorted(set(e)) -/
def wSortSet (wa : WE) : WL := fun x ρ Q => wa x ρ fun d => onTx d fun ss => Q ((sortSet ss).map D.str)
theorem df_sortSet {k : Nat} (hc : X.calm = true) (hr : Room k X.A) (hg : Gl X "sorted") (hm : X.mg "sorted" = none) (hg2 : Gl X "set") (hm2 : X.mg "set" = none) (ha : BD X E a wa)
    (he : starEach [Expr.Call (.Name "set" p2) [a] [] pos2] X.env = (false, eval (.Call (.Name "set" p2) [a] [] pos2) X.env) :: starEach [] X.env := by rfl) (hpl : (backTo pos (starEach [] X.env)).any (·.1) = false := by rfl)
    (he2 : starEach [a] X.env = (false, eval a X.env) :: starEach [] X.env := by rfl) (hpl2 : (backTo pos2 (starEach [] X.env)).any (·.1) = false := by rfl) :
    DF X E (.Call (.Name "sorted" p1) [.Call (.Name "set" p2) [a] [] pos2] [] pos) (wSortSet wa) := by
  obtain ⟨t, pt, s⟩ := ha.ex
  refine ⟨_, pe_callB (cr_sortedTx hc hr.units) hg hm (by decide +kernel) (pa_cons (pe_callTy (cr_setTx hc) hg2 hm2 (by decide +kernel) (pa_cons pt pa_nil he2) (by decide) (by decide) he2 hpl2) pa_nil he) (by decide) (by decide) he hpl, fun x ρ Q hw F σ H S Q' rp ex k => ?_⟩
  refine s x ρ _ hw F σ H S _ rp ex fun d v H1 S1 q1 g1 h1 => ?_
  obtain ⟨ss, hb, hv, q⟩ := onTx_sound (K := X.K) h1 q1
  refine ⟨v, ss, rfl, hb, hv, fun p hp => ?_⟩
  refine ⟨p, _, rfl, upd_same, by have := dedup_few ss []; simp at this; omega, fun r hr => ?_⟩
  have g2 := g1.lay hp (o := TxO X.prog X.w p (ss.foldl dedup []))
  exact k _ r _ _ S1 q (g2.lay hr) (g2.freeH hr) (g2.freeS hr) upd_same (Dats.strs _)
/-- len(set(e)) -/
def wLenSet (wa : WE) : WE := fun x ρ Q => wa x ρ fun d => onTx d fun ss => Q (.int (ss.foldl dedup []).length)
theorem ed_lenSet (hc : X.calm = true) (hg : Gl X "len") (hm : X.mg "len" = none) (hg2 : Gl X "set") (hm2 : X.mg "set" = none) (ha : BD X E a wa)
    (he : starEach [Expr.Call (.Name "set" p2) [a] [] pos2] X.env = (false, eval (.Call (.Name "set" p2) [a] [] pos2) X.env) :: starEach [] X.env := by rfl) (hpl : (backTo pos (starEach [] X.env)).any (·.1) = false := by rfl)
    (he2 : starEach [a] X.env = (false, eval a X.env) :: starEach [] X.env := by rfl) (hpl2 : (backTo pos2 (starEach [] X.env)).any (·.1) = false := by rfl) :
    ED X E (.Call (.Name "len" p1) [.Call (.Name "set" p2) [a] [] pos2] [] pos) (wLenSet wa) := by
  obtain ⟨t, pt, s⟩ := ha.ex
  refine ⟨_, pe_callB cr_lenTx hg hm (by decide +kernel) (pa_cons (pe_callTy (cr_setTx hc) hg2 hm2 (by decide +kernel) (pa_cons pt pa_nil he2) (by decide) (by decide) he2 hpl2) pa_nil he) (by decide) (by decide) he hpl, fun x ρ Q hw F σ H S Q' rp ex k => ?_⟩
  refine s x ρ _ hw F σ H S _ rp ex fun d v H1 S1 q1 g1 h1 => ?_
  obtain ⟨ss, hb, hv, q⟩ := onTx_sound (K := X.K) h1 q1
  refine ⟨v, ss, rfl, hb, hv, fun p hp => ?_⟩
  refine ⟨p, _, rfl, upd_same, by have := dedup_few ss []; simp at this; omega, ?_⟩
  exact k _ _ _ S1 q (g1.lay hp (o := TxO X.prog X.w p (ss.foldl dedup []))) .i
end
end NL

/-! Sets of nails, as texts. -/
namespace NL
open PySem PySem.Spec L2
open PyProof.Rows hiding St
/-- the nails of a text, each once, in order -/
def az (l : List Nat) : List Nat := (List.range' 97 26).filter fun c => decide (c ∈ l)
theorem mem_az {l : List Nat} {c : Nat} (h : Lt l) : c ∈ az l ↔ c ∈ l := by
  unfold az
  rw [List.mem_filter, List.mem_range'_1, decide_eq_true_eq]
  constructor
  · exact fun z => z.2
  · exact fun z => ⟨by have := h c z; omega, z⟩
theorem az_lt (l : List Nat) : Lt (az l) := fun c hc => by
  have := List.mem_range'_1.mp ((List.mem_filter.mp hc).1)
  omega
theorem azs_len (l : List Nat) : (az l).length ≤ 26 := by
  have := List.length_filter_le (fun c => decide (c ∈ l)) (List.range' 97 26)
  simpa [az] using this
theorem az_congr {l m : List Nat} (h : ∀ c, 97 ≤ c → c ≤ 122 → (c ∈ l ↔ c ∈ m)) : az l = az m := by
  unfold az
  refine List.filter_congr fun c hc => ?_
  have := List.mem_range'_1.mp hc
  have := h c (by omega) (by omega)
  simp [this]
theorem az_az (l : List Nat) : az (az l) = az l := az_congr fun c h1 h2 => by
  unfold az
  rw [List.mem_filter, List.mem_range'_1, decide_eq_true_eq]
  exact ⟨fun z => z.2, fun z => ⟨by omega, z⟩⟩
theorem mem_dedup {k : Str} : ∀ {l acc : List Str}, k ∈ l.foldl dedup acc ↔ k ∈ l ∨ k ∈ acc
  | [], acc => by simp
  | z :: l, acc => by
    rw [List.foldl_cons, mem_dedup (l := l)]
    unfold dedup
    split
    · rename_i h
      simp only [List.mem_cons]
      constructor
      · rintro (a | a)
        · exact .inl (.inr a)
        · exact .inr a
      · rintro ((a | a) | a)
        · exact .inr (a ▸ h)
        · exact .inl a
        · exact .inr a
    · simp only [List.mem_cons]
      constructor
      · rintro (a | a | a)
        · exact .inl (.inr a)
        · exact .inl (.inl a)
        · exact .inr a
      · rintro ((a | a) | a)
        · exact .inr (.inl a)
        · exact .inl a
        · exact .inr (.inr a)
theorem nodup_dedup : ∀ {l acc : List Str}, acc.Nodup → (l.foldl dedup acc).Nodup
  | [], acc, h => h
  | z :: l, acc, h => by
    rw [List.foldl_cons]
    refine nodup_dedup (l := l) ?_
    unfold dedup
    split
    · exact h
    · rename_i hz
      exact List.nodup_cons.mpr ⟨hz, h⟩
theorem leS_one (a b : Nat) : leS (tx [a]) (tx [b]) = decide (a ≤ b) := by
  have : ([a] ≤ [b]) ↔ a ≤ b := by simp [List.cons_le_cons_iff]; omega
  unfold leS
  show decide ([a] ≤ [b]) = _
  simp [this]
theorem signs_tx (l : List Nat) : signs1 (tx l) = l.map fun c => tx [c] := by
  unfold signs1
  show (Array.toList (List.toArray l)).map _ = _
  rfl
theorem sortSet_same {ss ts : List Str} (h : ∀ k, k ∈ ss ↔ k ∈ ts) (hn : ts.Nodup) (hs : ts.Pairwise fun a b => leS a b = true) : sortSet ss = ts := by
  unfold sortSet
  refine sorted_eq ((List.mergeSort_perm _ _).trans ?_) (PySem.W.sort_pairwise leS_total _) hs
  refine (List.perm_ext_iff_of_nodup (nodup_dedup List.nodup_nil) hn).mpr fun k => ?_
  rw [mem_dedup]
  simp [h k]
theorem tx_one_inj {a b : Nat} (h : tx [a] = tx [b]) : a = b := by
  have := tx_inj.mp h
  simpa using this
theorem sortSet_az {l : List Nat} (hl : Lt l) : sortSet (l.map fun c => tx [c]) = (az l).map fun c => tx [c] := by
  refine sortSet_same (fun k => ?_) ?_ ?_
  · simp only [List.mem_map, mem_az hl]
  · refine List.Pairwise.map (R := fun a b => a ≠ b) _ (fun a b h z => h (tx_one_inj z)) ?_
    exact (List.nodup_range' (s := 97) (n := 26) 1).filter _
  · refine List.Pairwise.map (R := fun a b => a < b) _ (fun a b h => by rw [leS_one]; simp; omega) ?_
    exact (List.pairwise_lt_range' (s := 97) (n := 26) 1).filter _
theorem az_tx : Str.ofString "abcdefghijklmnopqrstuvwxyz" = tx (List.range' 97 26) := by
  rw [tx_of (Str.ofString "abcdefghijklmnopqrstuvwxyz"), az_cps]
  rfl
theorem lt_az : Lt (List.range' 97 26) := fun c hc => by
  have := List.mem_range'_1.mp hc
  omega
theorem ones_sum (l : List Nat) : ((l.map fun c => tx [c]).map (·.length)).sum = l.length := by
  induction l with
  | nil => rfl
  | cons a m ih => simp only [List.map_cons, List.sum_cons, ih, tx_len, List.length_cons, List.length_nil]; omega
theorem ones_flat (l : List Nat) : ((l.map fun c => tx [c]).map (·.cps.toList)).flatten = l := by
  induction l with
  | nil => rfl
  | cons a m ih => rw [List.map_cons, List.map_cons, List.flatten_cons, ih]; rfl
theorem ones_join (l : List Nat) : Txt.join (tx []) (l.map fun c => tx [c]) = tx l := by rw [join_nil, ones_flat]
theorem Lt.app {l m : List Nat} (h : Lt l) (g : Lt m) : Lt (l ++ m) := fun c hc => (List.mem_append.mp hc).elim (h c) (g c)
theorem Lt.rep {l : List Nat} (n : Nat) (h : Lt l) : Lt (List.replicate n l).flatten := fun c hc => h c (rep_mem hc)
theorem az_nodup (l : List Nat) : (az l).Nodup := (List.nodup_range' (s := 97) (n := 26) 1).filter _
theorem dedup_len_az {l : List Nat} (hl : Lt l) : ((l.map fun c => tx [c]).foldl dedup []).length = (az l).length := by
  have : ((l.map fun c => tx [c]).foldl dedup []).Perm ((az l).map fun c => tx [c]) := by
    refine (List.perm_ext_iff_of_nodup (nodup_dedup List.nodup_nil) ?_).mpr fun k => ?_
    · refine List.Pairwise.map (R := fun a b => a ≠ b) _ (fun a b h z => h (tx_one_inj z)) ?_
      exact az_nodup l
    · rw [mem_dedup]
      simp only [List.mem_map, mem_az hl, List.not_mem_nil, or_false]
  rw [this.length_eq, List.length_map]
/-- a piece by one of the nails -/
def onN (l : List Nat) (p : Pc) : Bool := l.any fun y => decide (p.1 = tx [y])
/-- what is left -/
def wo (l : List Nat) (c : List Pc) : List Pc := c.filter fun p => !onN l p
theorem onN_iff {l : List Nat} {p : Pc} {x : Nat} (h : p.1 = tx [x]) : onN l p = decide (x ∈ l) := by
  unfold onN
  rw [Bool.eq_iff_iff, List.any_eq_true, decide_eq_true_eq]
  constructor
  · rintro ⟨y, hy, e⟩
    rw [decide_eq_true_eq, h] at e
    rw [tx_one_inj e]
    exact hy
  · exact fun hx => ⟨x, hx, by simp [h]⟩
theorem wo_congr {l m : List Nat} {c : List Pc} (hc : Nl c) (h : ∀ x, 97 ≤ x → x ≤ 122 → (x ∈ l ↔ x ∈ m)) : wo l c = wo m c := by
  unfold wo
  refine List.filter_congr fun p hp => ?_
  obtain ⟨x, e, h1, h2⟩ := hc p hp
  rw [onN_iff e, onN_iff e]
  simp [h x h1 h2]
theorem wo_az {l : List Nat} {c : List Pc} (hc : Nl c) (hl : Lt l) : wo (az l) c = wo l c := wo_congr hc fun x _ _ => mem_az hl
theorem wo_len (l : List Nat) (c : List Pc) : (wo l c).length ≤ c.length := List.length_filter_le _ _
theorem wo_mem {l : List Nat} {c : List Pc} {p : Pc} (h : p ∈ wo l c) : p ∈ c := (List.mem_filter.mp h).1
theorem Nl.wo {l : List Nat} {c : List Pc} (h : Nl c) : Nl (NL.wo l c) := fun p hp => h p (wo_mem hp)
theorem lts_lt : ∀ {c : List Pc}, Nl c → Lt (lts c)
  | [], _ => fun x hx => by cases hx
  | p :: c, h => by
    obtain ⟨y, e, h1, h2⟩ := h p (by simp)
    rw [lts_cons e]
    intro x hx
    rcases List.mem_cons.mp hx with z | z
    · omega
    · exact lts_lt (c := c) (fun q hq => h q (by simp [hq])) x z
/-! ### is not, of truths -/
section
variable [KC] {X : Cx}
def gNotB : D → D → (D → Prop) → Prop
  | .bl i, .bl j, Q => Q (.bl (!decide (i = j)))
  | _, _, _ => False
theorem dNotB : OpD X (compareOp .IsNot) gNotB := by
  refine ⟨_, op_isnot_bl, fun d e Q h H S u v Q' sh hd he k => ?_⟩
  unfold gNotB at h
  split at h
  · exact ⟨_, _, hd.b, he.b, k _ _ H S h (.refl sh) .b⟩
  · exact h.elim
end
/-! ### what is left of runs -/
theorem wo_cons (l : List Nat) (p : Pc) (c : List Pc) : wo l (p :: c) = if onN l p then wo l c else p :: wo l c := by
  unfold wo
  rw [List.filter_cons]
  cases onN l p <;> rfl
theorem onN_same {l : List Nat} {p q : Pc} (e : p.1 = q.1) : onN l p = onN l q := by unfold onN; rw [e]
theorem nf_cons (p : Pc) (c : List Pc) : nf (p :: c) = ps p (nf c) := rfl
theorem wo_ps (l : List Nat) (p : Pc) (w : List Pc) : nf (wo l (ps p w)) = nf (wo l (p :: w)) := by
  obtain ⟨n, a⟩ := p
  by_cases h0 : a = 0
  · subst h0
    rw [ps_zero, wo_cons]
    split
    · rfl
    · rw [nf_cons, ps_zero]
  cases w with
  | nil => rw [ps_nil h0]
  | cons q r =>
    obtain ⟨m, b⟩ := q
    by_cases e : m = n
    · subst e
      by_cases hs : a + b = 0
      · rw [ps_gone (p := (m, a)) (l := (m, b)) h0 rfl hs, wo_cons, wo_cons, onN_same (p := (m, a)) (q := (m, b)) rfl]
        split
        · rfl
        · rw [nf_cons, nf_cons, ps_ps (nf_red _), hs, ps_zero]
      · rw [ps_same (p := (m, a)) (l := (m, b)) h0 rfl hs, wo_cons, wo_cons, wo_cons, onN_same (p := (m, a)) (q := (m, b)) rfl, onN_same (p := (m, a + b)) (q := (m, b)) rfl]
        split
        · rfl
        · rw [nf_cons, nf_cons, nf_cons, ps_ps (nf_red _)]
    · rw [ps_other h0 e]
theorem wo_nf (l : List Nat) : ∀ c : List Pc, nf (wo l (nf c)) = nf (wo l c)
  | [] => rfl
  | p :: c => by
    rw [nf_cons, wo_ps, wo_cons, wo_cons]
    split
    · exact wo_nf l c
    · rw [nf_cons, nf_cons, wo_nf l c]
theorem wo_fall {l : List Nat} {c d : List Pc} (h : nf c = nf d) : nf (wo l c) = nf (wo l d) := by
  rw [← wo_nf l c, h, wo_nf]
theorem onN_app {l m : List Nat} {p : Pc} : onN (l ++ m) p = (onN l p || onN m p) := List.any_append
theorem wo_wo (l m : List Nat) (c : List Pc) : wo m (wo l c) = wo (l ++ m) c := by
  unfold wo
  rw [List.filter_filter]
  refine List.filter_congr fun p _ => ?_
  rw [onN_app]
  cases onN l p <;> cases onN m p <;> rfl
theorem wo_comm (l m : List Nat) (c : List Pc) : wo (l ++ m) c = wo (m ++ l) c := by
  unfold wo
  refine List.filter_congr fun p _ => ?_
  rw [onN_app, onN_app, Bool.or_comm]
theorem wo_more {l m : List Nat} {c : List Pc} (h : nf (wo l c) = []) : nf (wo (m ++ l) c) = [] := by
  rw [wo_comm, ← wo_wo]
  have : nf (wo l c) = nf [] := h
  rw [wo_fall this]
  rfl
theorem wo_all {c : List Pc} (h : Nl c) : wo (lts c) c = [] := by
  unfold wo
  refine List.filter_eq_nil_iff.mpr fun p hp => ?_
  obtain ⟨x, e, _, _⟩ := h p hp
  rw [onN_iff e]
  have : x ∈ lts c := by
    unfold lts
    refine List.mem_flatten.mpr ⟨p.1.cps.toList, List.mem_map.mpr ⟨p, hp, rfl⟩, ?_⟩
    rw [e]
    simp [tx]
  simp [this]
theorem rngN {n : Nat} : (rng 0 1 n).map D.int = (List.range n).map fun i : Nat => D.int i := by simp [rng, Function.comp_def]
end NL

/-! sorted(texts, key=f), f an own def. -/
namespace NL
open PySem PySem.Spec L2
open PyProof.Rows hiding St
open PySem.W (copyHeap copyHeap_at copyHeap_old sortingHeap sortingHeap_old)
theorem each_to_map {β γ : Type} {R : Value → γ → Prop} {g : β → γ} : ∀ {us : List Value} {bs : List β}, PySem.W.EachIs (fun v b => R v (g b)) us bs → PySem.W.EachIs R us (bs.map g)
  | _, _, .nil => .nil
  | _, _, .cons h t => .cons h (each_to_map t)
theorem each_of_vals : ∀ {ss : List Str} {us : List Value}, Vals (ss.map V.str) us → PySem.W.EachIs (fun u z => RelV (V.str z) u) us ss
  | [], _, .nil => .nil
  | _ :: _, _, .cons h t => .cons h (each_of_vals t)
theorem vals_of_each : ∀ {ss : List Str} {us : List Value}, PySem.W.EachIs (fun u z => RelV (V.str z) u) us ss → Vals (ss.map V.str) us
  | _, _, .nil => .nil
  | _, _, .cons h t => .cons h (vals_of_each t)
variable [KC]
section
variable {X : Cx} {k : Nat} {f : Addr} {fd : FuncData} {y : Str} {sp : Spec}
def rSortK (K : PySem.W.Frag) (f : Addr) (sp : Spec) : List V → List V → Hp → VK → Prop := fun vs zs H Q => ∃ (a : Addr) (ss : List Str) (κ : Str → D) (S : Hp), vs = [V.ref a] ∧ zs = [V.ref f] ∧ SqL K H a (ss.map V.str) ∧ (Same S H ∧ Tbq S H) ∧ Srt1 (ss.map κ) ∧
  (∀ z ∈ ss, sp [.str z] X0 fun r => r = .val (κ z)) ∧
  ∀ H' S' p, Grow H S H' S' → H' p = none → Q (.ref p) (upd H' p (.lst ((ss.mergeSort fun a b => dle (κ a) (κ b)).map V.str)))
theorem cr_sortK (G : FnOk X.prog X.w X.K X.mg X.base (L2N.CX X.prog X.w) k f fd [y] (spOf X.mg sp)) (hr : Room (k + 2) X.A) (hb : Binds X.K fd [y] []) : CallRK X (.builtin "sorted") [Str.ofString "key"] (rSortK X.K f sp) := by
  intro pins s σ H xs zs us ws Q I r rz h
  obtain ⟨a, ss, κ, S, rfl, rfl, hs, ⟨hS, stb⟩, hsrt, hsp, q⟩ := h
  obtain ⟨hnb, hal, hso⟩ := hsrt
  obtain ⟨its, rv, hL, hz⟩ := I.list hs
  rw [Vals.ref1 r, Vals.ref1 rz]
  have il : its.length = ss.length := by rw [← rv.length]; simp
  have hZ : its.length ≤ sizeLine := by rw [il]; simpa using hz
  show wpAny _ _ (call (.builtin "sorted") [.ref a] [(Str.ofString "key", .ref f)]) _ _ s
  refine PySem.W.sorted_of_sort hL.isList hZ (ksk_s1 _ _) (fun _ => ksk_l1 _ _) fun E' => ?_
  rw [ksk_t1]
  unfold ksk_tree
  generalize hA' : s.heap.objs.size + 1 = a'
  have ho : (copyHeap s.heap its).get? a' = some (seqObj "list" its.toArray 0) := by rw [← hA']; exact copyHeap_at s.heap its
  obtain ⟨e1, ho1⟩ : ∃ e1, ((copyHeap s.heap its).update a' (Obj.mapSeq fun _ => (#[] : Array Value))).get? a' = some (seqObj "list" #[] e1) := ⟨_, get?_update_seq ho fun _ => #[]⟩
  have hkS : (((copyHeap s.heap its).update a' (Obj.mapSeq fun _ => (#[] : Array Value))).push (seqObj "tuple" its.toArray 0)).objs.size = (copyHeap s.heap its).objs.size + 1 := by rw [size_push', Heap.size_update]
  refine wpAny_bind (listItems_at ho rfl ?_)
  refine wpAny_bind (listUpdate_at ho rfl ?_ (by rw [List.size_toArray]; exact hZ) (Nat.zero_le _))
  refine wpAny_bind (seqEpoch_at ho1 rfl ?_)
  refine wpAny_bind (wpAny_newTuple ?_ (by show its.length ≤ _; exact hZ))
  refine wpAny_bind (wpAny_newList ?_ (Nat.zero_le _))
  refine wpAny_holding ?_
  have lc : s.heap.objs.size < (copyHeap s.heap its).objs.size := by have := Heap.lt_size ho; rw [← hA'] at this; exact Nat.lt_of_succ_lt this
  generalize hK : (((copyHeap s.heap its).update a' (Obj.mapSeq fun _ => (#[] : Array Value))).push (seqObj "tuple" its.toArray 0)).objs.size = kS
  have gk : s.heap.objs.size ≤ kS := by rw [← hK, hkS]; exact Nat.le_succ_of_le (Nat.le_of_lt lc)
  have ga : s.heap.objs.size ≤ a' := by rw [← hA']; exact Nat.le_succ _
  have hka : kS ≠ a' := by
    rw [← hK, hkS]
    exact Nat.ne_of_gt (Nat.lt_succ_of_lt (Heap.lt_size ho))
  have n0 : (sortingHeap (copyHeap s.heap its) a' its).get? kS = some (seqObj "list" #[] 0) := by rw [← hK]; exact Heap.get?_push_size _ rfl
  have a0 : (sortingHeap (copyHeap s.heap its) a' its).get? a' = some (seqObj "list" #[] e1) := Heap.get?_push_of_some _ (Heap.get?_push_of_some _ ho1)
  have kept0 : ∀ b o, s.heap.get? b = some o → (sortingHeap (copyHeap s.heap its) a' its).get? b = some o := fun b o e =>
    sortingHeap_old (fun z => by rw [z] at e; exact absurd (Heap.lt_size e) (Nat.not_lt.mpr ga)) (copyHeap_old e)
  have I0 : Inv X pins σ H { s with heap := sortingHeap (copyHeap s.heap its) a' its } := I.kept (t' := s.toks) kept0
  have nfr : ∀ b, s.heap.objs.size ≤ b → b ∉ frs X.stack := fun b hb z => (List.mem_cons.mp (I.stkSub b z)).elim (fun e => by rw [e] at hb; exact absurd I.lt (Nat.not_lt.mpr hb)) (I.nofs hb)
  have ours : ∀ b, s.heap.objs.size ≤ b → b ≠ X.env.locals ∧ X.s_0.heap.objs.size ≤ b ∧ (∀ x c, X.env.cells.lookup x = some c → c ≠ b) ∧ ∀ p ∈ X.pn ++ pins, p.1 ≠ b := fun b hb =>
    ⟨fun z => by rw [z] at hb; exact absurd I.lt (Nat.not_lt.mpr hb), Nat.le_trans I.sz hb, fun x c e z => by
      obtain ⟨v, hv⟩ := I.cell x c e
      rw [z] at hv
      exact absurd hv.lt (Nat.not_lt.mpr hb), fun p hp z => absurd (Heap.lt_size (I.pin p hp).1) (by rw [z]; exact Nat.not_lt.mpr hb)⟩
  show wpAny _ _ (ksk_rest a' (.ref f) false its.toArray e1 (.ref kS)) _ _ { s with heap := sortingHeap (copyHeap s.heap its) a' its }
  unfold ksk_rest
  refine wpAny_bind (wpAny_rule ?_)
  first
    | rw [List.forIn_toArray]
    | (rw [← Array.forIn_toList]; simp only [List.toList_toArray])
    | rw [← Array.forIn_toList]
  refine wpAny_bind (ksk_fold (fun i s' => ∃ H' S' kA e kvs, Inv X pins σ H' s' ∧ Grow H S H' S' ∧ s'.heap.get? kS = some (seqObj "list" kA e) ∧ H' kS = none ∧ s'.heap.get? a' = some (seqObj "list" #[] e1) ∧ H' a' = none ∧ Vals kvs kA.toList ∧ Dats S' ((ss.take i).map κ) kvs) its 0 _
    ⟨H, S, #[], 0, [], I0, .refl hS, n0, I.hok.fresh gk, a0, I.hok.fresh ga, .nil, .nil⟩ ?step ?done)
  case step =>
    rintro j x s' hx ⟨H', S', kA, e, kvs, I', g', nk, hk, na, ha, rk, dk⟩
    simp only [Nat.zero_add] at dk ⊢
    have hj : j < its.length := (List.getElem?_eq_some_iff.mp hx).1
    obtain ⟨z, hzj⟩ : ∃ z, ss[j]? = some z := ⟨_, List.getElem?_eq_getElem (by omega)⟩
    have mz : z ∈ ss := List.mem_of_getElem? hzj
    have hka2 : kA.size = j := by
      have h1 : kA.size = ((ss.take j).map κ).length := by rw [← Array.length_toList, ← rk.length, dk.len]
      rw [List.length_map, List.length_take] at h1
      omega
    have rx : RelV (V.str z) x := by
      obtain ⟨u, hu, ru⟩ := rv.get (i := j) (x := V.str z) (by rw [List.getElem?_map, hzj]; rfl)
      rw [hx] at hu
      cases hu
      exact ru
    have spz : spOf X.mg sp [V.str z] H' (fun v H2 => ∃ S2, Grow H' S' H2 S2 ∧ Dat S2 (κ z) v) E0 :=
      ⟨[.str z], S', X0, _, ⟨g'.sh, stb.grow g'⟩, Dats.strs [z], hsp z mz, fun r v H2 S2 e2 g2 h2 => by subst e2; exact ⟨S2, g2, h2⟩, fun n C H2 S2 xn => xn.elim⟩
    have turn : wpAny (model X.prog X.w) X.A.in1.in1 (call (.ref f) [x]) (CE X.stack X.prog X.w H' s' (fun v H2 => ∃ S2, Grow H' S' H2 S2 ∧ Dat S2 (κ z) v)) (fun _ _ => False) s' := by
      refine wpAny_call (codeAny_mono (G.run X.A.in1.in1 X.stack s' H' ⟨[x], []⟩ [x] [V.str z] _ E0 hr.in1.in1 I'.env0.in1.in1 (hb s' [x] I'.kIn rfl) (.cons rx .nil) spz) fun r s2 hq => ?_)
      cases r with
      | error e =>
        obtain ⟨_, _, _, _, _, _, _, _, _, _, _, _, bad⟩ := hq
        exact bad.elim
      | ok fl =>
        cases fl with
        | ret u => exact hq
        | next => exact False.elim hq
        | brk => exact False.elim hq
        | cont => exact False.elim hq
    refine wpAny_bind (wpAny_attempt (wpAny_mono turn (fun v s'' he => ?_) fun _ _ hF => hF.elim))
    obtain ⟨w, H2, os, bare, un, hok, rw', S2, g2, hd⟩ := he
    have I2 : Inv X pins σ H2 s'' := I'.call' (ch := []) os un hok bare (fun b z => absurd z (by simp))
    try dsimp only
    have nk2 : s''.heap.get? kS = some (seqObj "list" kA e) := un.keep _ _ nk hk (nfr _ gk) (by simp)
    have na2 : s''.heap.get? a' = some (seqObj "list" #[] e1) := un.keep _ _ na ha (nfr _ ga) (by simp)
    have hk2 : H2 kS = none := un.free _ _ nk hk (by simp)
    have ha2 : H2 a' = none := un.free _ _ na ha (by simp)
    have s1 := Heap.SameBut.update s''.heap kS (Obj.mapSeq (·.push v))
    obtain ⟨c2, hc2⟩ : ∃ c2, (s''.heap.update kS (Obj.mapSeq (·.push v))).get? kS = some (seqObj "list" (kA.push v) c2) := ⟨_, get?_update_seq nk2 (·.push v)⟩
    have ek : ss.take (j + 1) = ss.take j ++ [z] := by rw [List.take_add_one, hzj]; simp
    have ea : (kA.push v).toList = kA.toList ++ [v] := by simp
    refine wpAny_bind (listUpdate_at nk2 rfl ?_ (by omega) (Nat.le_trans (Nat.le_of_eq (Array.size_push ..)) (by omega)))
    have O := ours kS gk
    refine wpAny_pure ⟨rfl, H2, S2, kA.push v, c2, kvs ++ [w], I2.turned (t' := s''.toks) (it := kS) (fun b o hb e => (s1.2 b hb).trans e) hk2 O.1 (.inr O.2.1) O.2.2.1 O.2.2.2, g'.trans g2, hc2, hk2, (s1.2 a' hka.symm).trans na2, ha2, ?_, ?_⟩
    · rw [ea]
      exact rk.append (.cons rw' .nil)
    · rw [ek, List.map_append]
      exact (Dats.mono g2.ss _ _ dk).app (.one hd)
  case done =>
    rintro s' ⟨H', S', kA, e, kvs, I', g', nk, hk, na, ha, rk, dk⟩
    have e3 : ss.take (0 + its.length) = ss := List.take_of_length_le (by omega)
    rw [e3] at dk
    have hsz : kA.size = its.length := by
      have h1 : kA.size = (ss.map κ).length := by rw [← Array.length_toList, ← rk.length, dk.len]
      rw [List.length_map] at h1
      omega
    have kzm : ss.map (fun z => py (κ z)) = (ss.map κ).map py := by rw [List.map_map]; rfl
    have ekd : PySem.W.EachIs (fun u d => ∃ as, Reads s'.heap u (py d) as) kA.toList (ss.map κ) :=
      dpAll_each I' (ss.map κ) kvs kA.toList hnb (fun i d v h1 h2 => by
        obtain ⟨v', hv', dd⟩ := dk.get h1
        rw [h2] at hv'
        cases hv'
        exact nb_dp 20 d v (hnb d (List.mem_of_getElem? h1)) (Dat.mono g'.sh d v dd)) rk dk.len.symm
    have ekz : PySem.W.EachIs (fun u d => ∃ as, Reads s'.heap u d as) kA.toList (ss.map fun z => py (κ z)) := by
      rw [kzm]
      exact each_to_map ekd
    have halz : PySem.W.AllAlike (ss.map fun z => py (κ z)) := fun x hx y hy => by
      obtain ⟨u, hu, rfl⟩ := List.mem_map.mp hx
      obtain ⟨v, hv, rfl⟩ := List.mem_map.mp hy
      exact hal _ (List.mem_map.mpr ⟨u, hu, rfl⟩) _ (List.mem_map.mpr ⟨v, hv, rfl⟩)
    try dsimp only
    refine wpAny_bind (listItems_at nk rfl ?_)
    refine PySem.W.keyH_end (κ := PySem.W.dataKind s'.heap (ss.map fun z => py (κ z))) (h₁ := PySem.W.hideAll s'.heap [kS]) (fun b o _ e => PySem.W.of_hideAll _ e) (PySem.W.hideAll_none _ (by simp)) nk na hka
      (PySem.W.SortsAt.data (s := s') ekz halz (by rw [kzm]; exact hso) (fun d hd => ?_)) hsz hZ fun h3 tk3 c k3 n3 => ⟨rfl, ?_⟩
    · obtain ⟨z, hz', rfl⟩ := List.mem_map.mp hd
      have h1 := py_depth (hnb _ (List.mem_map.mpr ⟨z, hz', rfl⟩))
      have h2 := hr.units
      have h3 : X.A.in1.in1.units = X.A.units + 2 := rfl
      omega
    · have ko : PySem.W.KeyedOut false (ss.map fun z => py (κ z)) its _ := ⟨s'.heap, kA.toList, halz, rfl, ekz⟩
      have hR := PySem.W.keyedOut_each (fun z => py (κ z)) ko (each_of_vals rv)
      generalize PySem.W.sortVals _ false kA.toList its = out at n3 hR
      have hv : Vals ((ss.mergeSort fun a b => dle (κ a) (κ b)).map V.str) out := vals_of_each hR
      have hlen : ((ss.mergeSort fun a b => dle (κ a) (κ b)).map V.str).length ≤ sizeLine := by
        rw [List.length_map, List.length_mergeSort]
        simpa using hz
      have k4 : ∀ b o, b ∉ [kS, a'] → s'.heap.get? b = some o → h3.get? b = some o := fun b o hb e =>
        k3 b o (fun z => hb (by simp [z])) (PySem.W.hideAll_get _ e (fun z => hb (by simp at z; simp [z])))
      have nb' : ∀ b u, H' b = some u → b ∉ [kS, a'] := fun b u e z => by
        simp only [List.mem_cons, List.not_mem_nil, or_false] at z
        rcases z with z | z
        · rw [z, hk] at e; cases e
        · rw [z, ha] at e; cases e
      have na' : ∀ b u, H' b = some u → b ≠ a' := fun b u e z => by rw [z, ha] at e; cases e
      have U : Un (frs X.stack) [kS, a'] H' (upd H' a' (.lst ((ss.mergeSort fun a b => dle (κ a) (κ b)).map V.str))) s'.heap h3 := by
        refine ⟨fun b o e _ _ hb => k4 b o hb e, fun b o e _ _ hb => ⟨o.slots, k4 b o hb e⟩, fun b o e n hb => ?_, fun b o e hb => ⟨o, k4 b o hb e⟩, fun b xs e => ?_, fun b o u e => ?_, fun b ps e => ⟨#[], ?_⟩⟩
        · rw [upd_ne (fun z => hb (by simp [z]))]; exact n
        · rw [upd_ne (na' b _ e)]; exact e
        · rw [upd_ne (na' b _ e)]; exact e
        · rw [upd_ne (na' b _ e), e]; simp
      have hok : HOk X.prog X.w (upd H' a' (.lst ((ss.mergeSort fun a b => dle (κ a) (κ b)).map V.str))) h3 := fun b u e => by
        by_cases hb : b = a'
        · subst hb
          rw [upd_same] at e
          cases e
          exact ⟨hlen, out, c, hv, n3⟩
        · rw [upd_ne hb] at e
          refine (I'.hok b u e).stay (fun b' v h q => k4 b' v ?_ q) (fun b' q => by rw [upd_ne (na' b' _ q)]; exact q) fun b' xs q => by rw [upd_ne (na' b' _ q)]; exact q
          rcases h with h | h
          · rw [h]; exact nb' b u e
          · exact nb' b' _ h
      refine ⟨.ref a', _, I'.call' (s' := { s' with heap := h3, toks := tk3 }) (ch := [kS, a']) rfl U hok I'.bare (fun b hb => ?_), rfl, q H' S' a' g' ha⟩
      have O : s.heap.objs.size ≤ b := by
        simp only [List.mem_cons, List.not_mem_nil, or_false] at hb
        rcases hb with z | z
        · rw [z]; exact gk
        · rw [z]; exact ga
      exact ⟨.inr (ours b O).2.1, (ours b O).1, (ours b O).2.2.1, (ours b O).2.2.2⟩
end
section
variable {X : Cx} {E : XK} {k : Nat} {f : Addr} {fd : FuncData} {y fn : Str} {sp : Spec} {a : Expr} {wa : WE} {p1 p2 kpos pos : Pos}
def gKey (sp : Spec) (d : D) (Q : List D → Prop) : Prop := match d with
  | .lst xs => ∃ (ss : List Str) (κ : Str → D), xs = ss.map D.str ∧ Srt1 (ss.map κ) ∧ (∀ z ∈ ss, sp [.str z] X0 fun r => r = .val (κ z)) ∧ Q ((ss.mergeSort fun a b => dle (κ a) (κ b)).map D.str)
  | _ => False
/-- sorted(texts, key=f) -/
def wSortK (sp : Spec) (wa : WE) : WL := fun x ρ Q => wa x ρ fun d => gKey sp d Q
theorem df_sortK (G : FnOk X.prog X.w X.K X.mg X.base (L2N.CX X.prog X.w) k f fd [y] (spOf X.mg sp)) (hr : Room (k + 2) X.A) (hb : Binds X.K fd [y] []) (hg : Gl X "sorted") (hm : X.mg "sorted" = none) (hgf : Gl X fn) (hmf : X.mg fn = some (.ref f)) (ha : BD X E a wa)
    (hdf : (fn == ("__debug__" : Str)) = false := by decide) (he : starEach [a] X.env = (false, eval a X.env) :: starEach [] X.env := by rfl)
    (he2 : backTo pos (starEach [a] X.env) = (false, eval a X.env) :: backTo pos (starEach [] X.env) := by rfl) (hpl : (backTo pos (starEach [a] X.env)).any (·.1) = false := by rfl) :
    DF X E (.Call (.Name "sorted" p1) [a] [⟨some (Str.ofString "key"), .Name fn p2, kpos⟩] pos) (wSortK sp wa) := by
  obtain ⟨t, pt, s⟩ := ha.ex
  refine ⟨_, pe_callBK (cr_sortK G hr hb) hg hm (by decide +kernel) (pa_cons pt pa_nil he) (pk_cons (pe_glob hgf hmf (v := V.ref f) rfl hdf) pk_nil) (by decide) (by decide) he2 hpl, fun x ρ Q hw F σ H S Q' rp ex k => ?_⟩
  refine s x ρ _ hw F σ H S _ rp ex fun d v H1 S1 q1 g1 h1 => ?_
  unfold gKey at q1
  split at q1
  · obtain ⟨ss, κ, rfl, hsr, hsp, q⟩ := q1
    obtain ⟨a, ws, rfl, r, z⟩ := h1
    have := z.ofStrs
    subst this
    refine ⟨a, ss, κ, S1, rfl, rfl, .of r, ⟨g1.sh, (rp.grow g1).fg.tb⟩, hsr, hsp, fun H' S' p g2 hp => ?_⟩
    have g3 := g1.trans g2
    exact k _ p _ _ S' q (g3.lay hp) (g3.freeH hp) (g3.freeS hp) upd_same (Dats.strs _)
  · exact q1.elim
end
end NL

/-! Sets of nails by size; the least ones. -/
namespace NL
open PySem PySem.Spec L2
open PyProof.Rows hiding St
/-! ### by size -/
def kz (s : Str) : D := .tup [.int s.length, .str s]
def leK (a b : List Nat) : Bool := dle (kz (tx a)) (kz (tx b))
theorem py_kz (s : Str) : py (kz s) = PySem.W.Datum.toD (α := Int × Str) ((s.length : Int), s) := rfl
theorem leK_lt (a b : List Nat) : leK a b = !PySem.W.DatumOrd.lt (α := Int × Str) ((tx b).length, tx b) ((tx a).length, tx a) := by
  unfold leK dle dlt
  rw [py_kz, py_kz, PySem.W.DatumOrd.lt_eq]
theorem leK_total : PySem.W.TotalLe leK := by
  have : PySem.W.dataLe false (fun s : List Nat => py (kz (tx s))) = leK := rfl
  rw [← this]
  exact PySem.W.sortLe_total _ _ _
theorem leK_len {a b : List Nat} (h : leK a b = true) : a.length ≤ b.length := by
  rw [leK_lt, tx_len, tx_len] at h
  simp only [PySem.W.DatumOrd.lt] at h
  split at h
  · rename_i e
    omega
  · simp only [Bool.not_eq_true', decide_eq_false_iff_not] at h
    omega
theorem leK_anti {a b : List Nat} (h : leK a b = true) (g : leK b a = true) : a = b := by
  rw [leK_lt] at h g
  have := ord_tri (α := Int × Str) (by simpa using h) (by simpa using g)
  exact (tx_inj.mp (congrArg Prod.snd this)).symm
theorem sub_filter {s : List Nat} : ∀ {m : List Nat}, s.Sublist m → m.Nodup → m.filter (fun x => decide (x ∈ s)) = s := by
  intro m h
  induction h with
  | slnil => intro _; rfl
  | @cons s m x h ih =>
    intro n
    obtain ⟨n1, n2⟩ := List.nodup_cons.mp n
    rw [List.filter_cons_of_neg (by simp; exact fun z => n1 (h.subset z)), ih n2]
  | @cons_cons s m x h ih =>
    intro n
    obtain ⟨n1, n2⟩ := List.nodup_cons.mp n
    rw [List.filter_cons_of_pos (by simp)]
    congr 1
    rw [← ih n2]
    refine List.filter_congr fun y hy => ?_
    have : y ≠ x := fun z => n1 (z ▸ hy)
    rw [ih n2]
    simp [this]
/-- a set of some of the nails -/
def SoN (l s : List Nat) : Prop := az s = s ∧ ∀ x ∈ s, x ∈ l
theorem SoN.lt {l s : List Nat} (h : SoN l s) : Lt s := by rw [← h.1]; exact az_lt s
theorem SoN.len {l s : List Nat} (h : SoN l s) : s.length ≤ 26 := by rw [← h.1]; exact azs_len s
theorem az_filter {l m : List Nat} (h : ∀ x ∈ m, x ∈ l) : (az l).filter (fun x => decide (x ∈ m)) = az m := by
  unfold az
  rw [List.filter_filter]
  refine List.filter_congr fun x _ => ?_
  by_cases hx : x ∈ m
  · simp [hx, h x hx]
  · simp [hx]
theorem SoN.of_sub {l s : List Nat} (h : s.Sublist (az l)) : SoN (az l) s := by
  refine ⟨?_, fun x hx => h.subset hx⟩
  have e := sub_filter h (az_nodup l)
  rw [← az_az l] at e
  rw [az_filter (fun x hx => h.subset hx)] at e
  exact e
theorem SoN.sub {l s : List Nat} (h : SoN l s) : s.Sublist (az l) := by
  have := az_filter (l := l) (m := s) h.2
  rw [h.1] at this
  rw [← this]
  exact List.filter_sublist
/-- all sets of nails, as they come about -/
def subs (m : List Nat) : List (List Nat) := m.foldl (fun f x => f ++ f.map (· ++ [x])) [[]]
theorem mem_subs_fold {s : List Nat} : ∀ (m : List Nat) (f : List (List Nat)), s ∈ m.foldl (fun f x => f ++ f.map (· ++ [x])) f ↔ ∃ a ∈ f, ∃ b : List Nat, b.Sublist m ∧ s = a ++ b
  | [], f => by
    rw [List.foldl_nil]
    constructor
    · exact fun h => ⟨s, h, [], .slnil, by simp⟩
    · rintro ⟨a, ha, b, hb, rfl⟩
      rw [List.sublist_nil] at hb
      subst hb
      simpa using ha
  | x :: m, f => by
    rw [List.foldl_cons, mem_subs_fold m]
    constructor
    · rintro ⟨a, ha, b, hb, rfl⟩
      rcases List.mem_append.mp ha with h | h
      · exact ⟨a, h, b, hb.cons x, rfl⟩
      · obtain ⟨a', ha', rfl⟩ := List.mem_map.mp h
        exact ⟨a', ha', x :: b, hb.cons_cons x, by simp⟩
    · rintro ⟨a, ha, b, hb, rfl⟩
      cases hb with
      | cons _ hb => exact ⟨a, by simp [ha], b, hb, rfl⟩
      | cons_cons _ hb => exact ⟨a ++ [x], List.mem_append.mpr (.inr (List.mem_map.mpr ⟨a, ha, rfl⟩)), _, hb, by simp⟩
theorem mem_subs {s m : List Nat} : s ∈ subs m ↔ s.Sublist m := by
  unfold subs
  rw [mem_subs_fold]
  constructor
  · rintro ⟨a, ha, b, hb, rfl⟩
    rw [List.mem_singleton] at ha
    subst ha
    exact hb
  · exact fun h => ⟨[], by simp, s, h, rfl⟩
theorem subs_len_fold : ∀ (m : List Nat) (f : List (List Nat)), (m.foldl (fun f x => f ++ f.map (· ++ [x])) f).length = 2 ^ m.length * f.length
  | [], f => by simp
  | x :: m, f => by
    rw [List.foldl_cons, subs_len_fold m]
    simp only [List.length_append, List.length_map, List.length_cons]
    rw [Nat.pow_succ, Nat.mul_assoc]
    congr 1
    omega
theorem subs_len (m : List Nat) : (subs m).length = 2 ^ m.length := by unfold subs; rw [subs_len_fold]; simp
/-- all sets, by size -/
def sets (m : List Nat) : List (List Nat) := (subs m).mergeSort leK
theorem mem_sets {s l : List Nat} : s ∈ sets (az l) ↔ SoN (az l) s := by
  unfold sets
  rw [(List.mergeSort_perm _ _).mem_iff, mem_subs]
  exact ⟨.of_sub, fun h => by have := h.sub; rw [az_az] at this; exact this⟩
theorem sets_sorted (m : List Nat) : (sets m).Pairwise fun a b => leK a b = true := PySem.W.sort_pairwise leK_total _
theorem sets_len (m : List Nat) : (sets m).length = 2 ^ m.length := by unfold sets; rw [List.length_mergeSort, subs_len]
def part (a b : List Nat) : Bool := a.all fun x => decide (x ∈ b)
theorem part_iff {a b : List Nat} : part a b = true ↔ ∀ x ∈ a, x ∈ b := by simp [part]
theorem part_refl (a : List Nat) : part a a = true := by simp [part]
theorem part_trans {a b c : List Nat} (h : part a b = true) (g : part b c = true) : part a c = true := by
  rw [part_iff] at h g ⊢
  exact fun x hx => g x (h x hx)
theorem part_anti {a b : List Nat} (ha : az a = a) (hb : az b = b) (h : part a b = true) (g : part b a = true) : a = b := by
  rw [part_iff] at h g
  rw [← ha, ← hb]
  exact az_congr fun c _ _ => ⟨h c, g c⟩
theorem part_size {a b : List Nat} (ha : az a = a) (hb : az b = b) (h : part b a = true) (l : a.length ≤ b.length) : part a b = true := by
  rw [part_iff] at h
  have e := az_filter (l := a) (m := b) h
  rw [ha, hb] at e
  have s : b.Sublist a := by rw [← e]; exact List.filter_sublist
  rw [s.eq_of_length_le l]
  exact part_refl a
/-! ### the least ones, one by one -/
def gst (p : List Nat → Bool) (acc : List (List Nat)) (x : List Nat) : List (List Nat) := if acc.any fun y => part y x then acc else if p x then acc ++ [x] else acc
def greedy (p : List Nat → Bool) (L : List (List Nat)) : List (List Nat) := L.foldl (gst p) []
theorem greedy_snoc (p : List Nat → Bool) (L : List (List Nat)) (z : List Nat) : greedy p (L ++ [z]) = gst p (greedy p L) z := by simp [greedy]
theorem snoc_ind {P : List (List Nat) → Prop} (h0 : P []) (h1 : ∀ L z, P L → P (L ++ [z])) (L : List (List Nat)) : P L := by
  have : ∀ n (L : List (List Nat)), L.length = n → P L := by
    intro n
    induction n with
    | zero => intro L h; rw [List.length_eq_zero_iff.mp h]; exact h0
    | succ n ih =>
      intro L h
      rcases List.eq_nil_or_concat L with z | ⟨m, x, z⟩
      · rw [z] at h; simp at h
      · rw [List.concat_eq_append] at z
        subst z
        exact h1 m x (ih m (by simpa using h))
  exact this _ L rfl
theorem gst_cases (p : List Nat → Bool) (acc : List (List Nat)) (x : List Nat) : (gst p acc x = acc ∧ ((∃ y ∈ acc, part y x = true) ∨ p x = false)) ∨ (gst p acc x = acc ++ [x] ∧ p x = true ∧ ∀ y ∈ acc, part y x = false) := by
  unfold gst
  cases h : acc.any fun y => part y x with
  | true =>
    rw [if_pos rfl]
    obtain ⟨y, hy, e⟩ := List.any_eq_true.mp h
    exact .inl ⟨rfl, .inl ⟨y, hy, e⟩⟩
  | false =>
    rw [if_neg (by simp)]
    cases hp : p x with
    | true => exact .inr ⟨by simp, rfl, fun y hy => by have := List.any_eq_false.mp h y hy; simpa using this⟩
    | false => exact .inl ⟨by simp, .inr rfl⟩
theorem greedy_cover (p : List Nat → Bool) : ∀ L y, y ∈ L → p y = true → ∃ y' ∈ greedy p L, part y' y = true := by
  intro L
  induction L using snoc_ind with
  | h0 => intro y h; cases h
  | h1 L z ih =>
    intro y hy hp
    rw [greedy_snoc]
    rcases gst_cases p (greedy p L) z with ⟨e, c⟩ | ⟨e, c1, c2⟩
    · rw [e]
      rcases List.mem_append.mp hy with h | h
      · exact ih y h hp
      · rw [List.mem_singleton] at h
        subst h
        rcases c with ⟨w, hw, c⟩ | c
        · exact ⟨w, hw, c⟩
        · rw [hp] at c; cases c
    · rw [e]
      rcases List.mem_append.mp hy with h | h
      · obtain ⟨w, hw, c⟩ := ih y h hp
        exact ⟨w, by simp [hw], c⟩
      · rw [List.mem_singleton] at h
        subst h
        exact ⟨y, by simp, part_refl y⟩
theorem greedy_mem (p : List Nat → Bool) : ∀ L : List (List Nat), L.Pairwise (fun a b => part b a = true → part a b = true) → (∀ a ∈ L, az a = a) → ∀ x, x ∈ greedy p L ↔ x ∈ L ∧ p x = true ∧ ∀ y ∈ L, p y = true → part y x = true → part x y = true := by
  intro L
  induction L using snoc_ind with
  | h0 => intro _ _ x; simp [greedy]
  | h1 L z ih =>
    intro hs ha x
    obtain ⟨hs1, _, hs2⟩ := List.pairwise_append.mp hs
    have hz : ∀ a ∈ L, part z a = true → part a z = true := fun a m => hs2 a m z (by simp)
    have ih := ih hs1 fun a m => ha a (by simp [m])
    have az' : az z = z := ha z (by simp)
    rw [greedy_snoc]
    have fwd : x ∈ greedy p L → x ∈ L ++ [z] ∧ p x = true ∧ ∀ y ∈ L ++ [z], p y = true → part y x = true → part x y = true := fun h => by
      obtain ⟨h1, h2, h3⟩ := (ih x).mp h
      refine ⟨by simp [h1], h2, fun y hy py hp => ?_⟩
      rcases List.mem_append.mp hy with m | m
      · exact h3 y m py hp
      · rw [List.mem_singleton] at m
        subst m
        exact hz x h1 hp
    have bwd : x ∈ L → p x = true → (∀ y ∈ L ++ [z], p y = true → part y x = true → part x y = true) → x ∈ greedy p L := fun h1 h2 h3 => (ih x).mpr ⟨h1, h2, fun y hy => h3 y (by simp [hy])⟩
    rcases gst_cases p (greedy p L) z with ⟨e, c⟩ | ⟨e, c1, c2⟩
    · rw [e]
      refine ⟨fwd, fun ⟨h1, h2, h3⟩ => ?_⟩
      rcases List.mem_append.mp h1 with m | m
      · exact bwd m h2 h3
      · rw [List.mem_singleton] at m
        subst m
        rcases c with ⟨w, hw, c⟩ | c
        · obtain ⟨g1, g2, g3⟩ := (ih w).mp hw
          have := part_anti (ha w (by simp [g1])) az' c (h3 w (by simp [g1]) g2 c)
          subst this
          exact hw
        · rw [h2] at c; cases c
    · rw [e, List.mem_append, List.mem_singleton]
      constructor
      · rintro (h | h)
        · exact fwd h
        · subst h
          refine ⟨by simp, c1, fun y hy py hp => ?_⟩
          rcases List.mem_append.mp hy with m | m
          · obtain ⟨w, hw, g⟩ := greedy_cover p L y m py
            have := c2 w hw
            rw [part_trans g hp] at this
            cases this
          · rw [List.mem_singleton] at m
            subst m
            exact hp
      · rintro ⟨h1, h2, h3⟩
        rcases List.mem_append.mp h1 with m | m
        · exact .inl (bwd m h2 h3)
        · rw [List.mem_singleton] at m
          exact .inr m
theorem greedy_sub (p : List Nat → Bool) (L : List (List Nat)) : (greedy p L).Sublist L := by
  induction L using snoc_ind with
  | h0 => exact .slnil
  | h1 L z ih =>
    rw [greedy_snoc]
    rcases gst_cases p (greedy p L) z with ⟨e, _⟩ | ⟨e, _, _⟩
    · rw [e]; exact ih.trans (List.sublist_append_left _ _)
    · rw [e]; exact ih.append (.refl _)
theorem greedy_nodup (p : List Nat → Bool) (L : List (List Nat)) : (greedy p L).Nodup := by
  induction L using snoc_ind with
  | h0 => exact List.nodup_nil
  | h1 L z ih =>
    rw [greedy_snoc]
    rcases gst_cases p (greedy p L) z with ⟨e, _⟩ | ⟨e, _, c⟩
    · rw [e]; exact ih
    · rw [e]
      refine List.nodup_append.mpr ⟨ih, by simp, fun a ha b hb z' => ?_⟩
      rw [List.mem_singleton] at hb
      subst hb z'
      have := c a ha
      rw [part_refl] at this
      cases this
theorem sorted_same {l m : List (List Nat)} (h : ∀ x, x ∈ l ↔ x ∈ m) (nl : l.Nodup) (nm : m.Nodup) (sl : l.Pairwise fun a b => leK a b = true) (sm : m.Pairwise fun a b => leK a b = true) : l = m :=
  ((List.perm_ext_iff_of_nodup nl nm).mpr h).eq_of_pairwise (le := fun a b => leK a b = true) (fun a b _ _ h g => leK_anti h g) sl sm
theorem sets_ord (l : List Nat) : (sets (az l)).Pairwise (fun a b => part b a = true → part a b = true) := by
  have h := sets_sorted (az l)
  refine (List.Pairwise.and_mem.mp h).imp ?_
  rintro a b ⟨ha, hb, hle⟩ hp
  exact part_size (mem_sets.mp ha).1 (mem_sets.mp hb).1 hp (leK_len hle)
/-- the least sets that make a cord fall -/
def fallS (c : List Pc) (s : List Nat) : Bool := decide (nf (wo s c) = [])
def fallsG (c : List Pc) (m : List Nat) : List (List Nat) := greedy (fallS c) (sets m)
theorem mem_fallsG {c : List Pc} {l s : List Nat} : s ∈ fallsG c (az l) ↔ SoN (az l) s ∧ nf (wo s c) = [] ∧ ∀ t, SoN (az l) t → nf (wo t c) = [] → part t s = true → part s t = true := by
  unfold fallsG
  rw [greedy_mem _ _ (sets_ord l) (fun a ha => (mem_sets.mp ha).1)]
  simp only [fallS, decide_eq_true_eq, mem_sets]
theorem fallsG_same {c : List Pc} {l m : List Nat} (hc : Nl c) (h1 : ∀ x ∈ lts c, x ∈ az l) (h2 : ∀ x ∈ az l, x ∈ az m) : fallsG c (az l) = fallsG c (az m) := by
  refine sorted_same (fun s => ?_) (greedy_nodup _ _) (greedy_nodup _ _) ((sets_sorted _).sublist (greedy_sub _ _)) ((sets_sorted _).sublist (greedy_sub _ _))
  rw [mem_fallsG, mem_fallsG]
  have up : ∀ {s}, SoN (az l) s → SoN (az m) s := fun h => ⟨h.1, fun x hx => h2 x (h.2 x hx)⟩
  constructor
  · rintro ⟨a, b, d⟩
    refine ⟨up a, b, fun t ht ft hp => d t ⟨ht.1, fun x hx => a.2 x (part_iff.mp hp x hx)⟩ ft hp⟩
  · rintro ⟨a, b, d⟩
    have hin : ∀ x ∈ s, x ∈ az l := by
      let t := az (s.filter fun x => decide (x ∈ az l))
      have lt : Lt (s.filter fun x => decide (x ∈ az l)) := fun x hx => a.lt x (List.mem_filter.mp hx).1
      have mt : ∀ x, x ∈ t ↔ x ∈ s ∧ x ∈ az l := fun x => by
        show x ∈ az _ ↔ _
        rw [mem_az lt, List.mem_filter, decide_eq_true_eq]
      have e : wo t c = wo s c := by
        unfold wo
        refine List.filter_congr fun p hp => ?_
        obtain ⟨y, ey, _, _⟩ := hc p hp
        rw [onN_iff ey, onN_iff ey]
        have : y ∈ lts c := by
          unfold lts
          refine List.mem_flatten.mpr ⟨p.1.cps.toList, List.mem_map.mpr ⟨p, hp, rfl⟩, ?_⟩
          rw [ey]
          simp [tx]
        simp only [mt, h1 y this, and_true]
      have := d t ⟨az_az _, fun x hx => a.2 x ((mt x).mp hx).1⟩ (by rw [e]; exact b) (part_iff.mpr fun x hx => ((mt x).mp hx).1)
      exact fun x hx => ((mt x).mp (part_iff.mp this x hx)).2
    exact ⟨⟨a.1, hin⟩, b, fun t ht => d t (up ht)⟩
theorem mem_lts {x : Nat} {c : List Pc} : x ∈ lts c ↔ ∃ p ∈ c, x ∈ p.1.cps.toList := by
  unfold lts
  rw [List.mem_flatten]
  constructor
  · rintro ⟨l, hl, hx⟩
    obtain ⟨p, hp, rfl⟩ := List.mem_map.mp hl
    exact ⟨p, hp, hx⟩
  · rintro ⟨p, hp, hx⟩
    exact ⟨_, List.mem_map.mpr ⟨p, hp, rfl⟩, hx⟩
theorem lts_nf {x : Nat} {c : List Pc} (h : x ∈ lts (nf c)) : x ∈ lts c := by
  obtain ⟨q, hq, hx⟩ := mem_lts.mp h
  obtain ⟨p, hp, e⟩ := nf_nails hq
  exact mem_lts.mpr ⟨p, hp, by rw [← e]; exact hx⟩
theorem nls_bls : ∀ l : List Bool, nls (l.map D.bl) = true
  | [] => by simp [nls]
  | b :: l => by simp only [List.map_cons, nls, nl, nls_bls l]; rfl
/-! ### for the walk -/
def dT (s : List Nat) : D := .str (tx s)
theorem srt_kz {L : List (List Nat)} (h : ∀ s ∈ L, Lt s) : Srt1 ((L.map tx).map kz) := by
  refine ⟨fun d hd => ?_, fun d hd e he => ?_, ?_⟩
  · rw [List.map_map] at hd
    obtain ⟨s, hs, rfl⟩ := List.mem_map.mp hd
    have := tx_ok (h s hs)
    simp [kz, nb, this]
  · obtain ⟨a, _, rfl⟩ := List.mem_map.mp hd
    obtain ⟨b, _, rfl⟩ := List.mem_map.mp he
    unfold lik
    rw [py_kz, py_kz]
    exact PySem.W.DatumOrd.alike (α := Int × Str) _ _
  · rw [List.map_map]
    exact PySem.W.Sortable.tuples fun s => ⟨_, _, py_kz s⟩
theorem sets_map (m : List Nat) : (((subs m).map tx).mergeSort fun a b => dle (kz a) (kz b)).map D.str = (sets m).map dT := by
  unfold sets
  rw [← PySem.W.sort_maps (r := leK) (s := fun a b => dle (kz a) (kz b)) tx fun _ _ _ _ => rfl, List.map_map]
  rfl
theorem az_card {l : List Nat} (hl : Lt l) : (az l).length ≤ l.length := by
  rw [← dedup_len_az hl]
  have := dedup_few (l.map fun c => tx [c]) []
  simpa using this
theorem subs_step (f : List (List Nat)) (x : Nat) : (f ++ f.map (· ++ [x])).map dT = f.map dT ++ (f.map fun t => .str (tx (t ++ [x]))) := by simp [dT, Function.comp_def]
end NL

/-! Families of sets: the least ones, the meeting ones. -/
namespace NL
open PySem PySem.Spec L2
open PyProof.Rows hiding St
theorem nodup_sub {α : Type} [DecidableEq α] : ∀ {l m : List α}, l.Nodup → (∀ x ∈ l, x ∈ m) → l.length ≤ m.length
  | [], m, _, _ => Nat.zero_le _
  | x :: l, m, n, h => by
    obtain ⟨n1, n2⟩ := List.nodup_cons.mp n
    have hx : x ∈ m := h x (by simp)
    have := nodup_sub (l := l) (m := m.erase x) n2 fun y hy => (List.mem_erase_of_ne (fun e : y = x => n1 (by rw [← e]; exact hy))).mpr (h y (by simp [hy]))
    rw [List.length_erase_of_mem hx] at this
    have : 0 < m.length := List.length_pos_of_mem hx
    simp only [List.length_cons]
    omega
/-- the least sets of a kind, by size -/
def IsMin (P : List Nat → Prop) (m : List (List Nat)) : Prop := m.Pairwise (fun a b => leK a b = true) ∧ m.Nodup ∧ ∀ s, s ∈ m ↔ az s = s ∧ P s ∧ ∀ t, az t = t → P t → part t s = true → part s t = true
theorem IsMin.eq {P Q : List Nat → Prop} {m n : List (List Nat)} (h : IsMin P m) (g : IsMin Q n) (e : ∀ s, az s = s → (P s ↔ Q s)) : m = n := by
  refine sorted_same (fun s => ?_) h.2.1 g.2.1 h.1 g.1
  rw [h.2.2, g.2.2]
  constructor
  · rintro ⟨a, b, c⟩
    exact ⟨a, (e s a).mp b, fun t ht qt => c t ht ((e t ht).mpr qt)⟩
  · rintro ⟨a, b, c⟩
    exact ⟨a, (e s a).mpr b, fun t ht qt => c t ht ((e t ht).mp qt)⟩
theorem IsMin.congr {P Q : List Nat → Prop} {m : List (List Nat)} (h : IsMin P m) (e : ∀ s, az s = s → (P s ↔ Q s)) : IsMin Q m := by
  refine ⟨h.1, h.2.1, fun s => ?_⟩
  rw [h.2.2]
  constructor
  · rintro ⟨a, b, c⟩
    exact ⟨a, (e s a).mp b, fun t ht qt => c t ht ((e t ht).mpr qt)⟩
  · rintro ⟨a, b, c⟩
    exact ⟨a, (e s a).mpr b, fun t ht qt => c t ht ((e t ht).mp qt)⟩
theorem IsMin.az {P : List Nat → Prop} {m : List (List Nat)} (h : IsMin P m) {s : List Nat} (hs : s ∈ m) : NL.az s = s := ((h.2.2 s).mp hs).1
theorem IsMin.is {P : List Nat → Prop} {m : List (List Nat)} (h : IsMin P m) {s : List Nat} (hs : s ∈ m) : P s := ((h.2.2 s).mp hs).2.1
theorem part_less {s t : List Nat} (hs : az s = s) (ht : az t = t) (h : part t s = true) (n : part s t = false) : t.length < s.length := by
  rw [part_iff] at h
  have e := az_filter (l := s) (m := t) h
  rw [hs, ht] at e
  have sb : t.Sublist s := by rw [← e]; exact List.filter_sublist
  rcases Nat.lt_or_eq_of_le sb.length_le with z | z
  · exact z
  · rw [sb.eq_of_length z, part_refl] at n
    cases n
/-- below each one there is a least one -/
theorem IsMin.cover {P : List Nat → Prop} {m : List (List Nat)} (h : IsMin P m) : ∀ (n : Nat) (s : List Nat), s.length ≤ n → NL.az s = s → P s → ∃ t ∈ m, part t s = true := by
  intro n
  induction n with
  | zero =>
    intro s hn hs hp
    refine ⟨s, (h.2.2 s).mpr ⟨hs, hp, fun t ht _ pt => ?_⟩, part_refl s⟩
    have : s = [] := List.length_eq_zero_iff.mp (by omega)
    rw [this]
    rfl
  | succ n ih =>
    intro s hn hs hp
    by_cases hm : ∀ t, NL.az t = t → P t → part t s = true → part s t = true
    · exact ⟨s, (h.2.2 s).mpr ⟨hs, hp, hm⟩, part_refl s⟩
    · obtain ⟨t, hm⟩ := Classical.not_forall.mp hm
      simp only [Classical.not_imp] at hm
      obtain ⟨h1, h2, h3, h4⟩ := hm
      have h4 : part s t = false := by simpa using h4
      have := part_less hs h1 h3 h4
      obtain ⟨u, hu, hp⟩ := ih t (by omega) h1 h2
      exact ⟨u, hu, part_trans hp h3⟩
/-- what the sets of a family are parts of -/
def Up (L : List (List Nat)) (s : List Nat) : Prop := ∃ t ∈ L, part t s = true
theorem Up.more {L : List (List Nat)} {s t : List Nat} (h : Up L s) (p : part s t = true) : Up L t := by
  obtain ⟨u, hu, e⟩ := h
  exact ⟨u, hu, part_trans e p⟩
theorem IsMin.up {P : List Nat → Prop} {m : List (List Nat)} (h : IsMin P m) (up : ∀ s t, P s → part s t = true → P t) {s : List Nat} (hs : NL.az s = s) : Up m s ↔ P s := by
  constructor
  · rintro ⟨t, ht, e⟩
    exact up t s (h.is ht) e
  · exact fun hp => h.cover _ s (Nat.le_refl _) hs hp
theorem least_min {L M : List (List Nat)} (hm : ∀ x, x ∈ M ↔ x ∈ L) (hs : M.Pairwise fun a b => leK a b = true) (ha : ∀ t ∈ L, az t = t) : IsMin (Up L) (greedy (fun _ => true) M) := by
  have ha' : ∀ t ∈ M, az t = t := fun t ht => ha t ((hm t).mp ht)
  have ho : M.Pairwise fun a b => part b a = true → part a b = true := by
    refine (List.Pairwise.and_mem.mp hs).imp ?_
    rintro a b ⟨h1, h2, hle⟩ hp
    exact part_size (ha' a h1) (ha' b h2) hp (leK_len hle)
  refine ⟨hs.sublist (greedy_sub _ _), greedy_nodup _ _, fun s => ?_⟩
  rw [greedy_mem _ _ ho ha']
  constructor
  · rintro ⟨h1, _, h3⟩
    refine ⟨ha' s h1, ⟨s, (hm s).mp h1, part_refl s⟩, fun t _ ⟨u, hu, e⟩ pt => ?_⟩
    exact part_trans (h3 u ((hm u).mpr hu) rfl (part_trans e pt)) e
  · rintro ⟨h1, ⟨u, hu, e⟩, h3⟩
    have := part_anti h1 (ha u hu) (h3 u (ha u hu) ⟨u, hu, part_refl u⟩ e) e
    subst this
    exact ⟨(hm s).mpr hu, rfl, fun y hy _ py => h3 y (ha' y hy) ⟨y, (hm y).mp hy, part_refl y⟩ py⟩
/-- a common nail -/
def meets (a b : List Nat) : Bool := a.any fun x => decide (x ∈ b)
theorem meets_iff {a b : List Nat} : meets a b = true ↔ ∃ x, x ∈ a ∧ x ∈ b := by simp [meets]
theorem meets_more {a b c : List Nat} (h : meets a c = true) (p : part a b = true) : meets b c = true := by
  rw [meets_iff] at h ⊢
  obtain ⟨x, h1, h2⟩ := h
  exact ⟨x, part_iff.mp p x h1, h2⟩
/-- meets each of a family -/
def MeetAll (F : List (List Nat)) (s : List Nat) : Prop := ∀ f ∈ F, meets s f = true
theorem MeetAll.more {F : List (List Nat)} {s t : List Nat} (h : MeetAll F s) (p : part s t = true) : MeetAll F t := fun f hf => meets_more (h f hf) p
/-- what meeting one set more makes of the sets had -/
def grow1 (one : List Nat) (had : List Nat) : List (List Nat) := if meets had one then [had] else one.map fun x => az (had ++ [x])
def growAll (one : List Nat) (m : List (List Nat)) : List (List Nat) := (m.map (grow1 one)).flatten
theorem grow_up {F : List (List Nat)} {m : List (List Nat)} {one : List Nat} (h : IsMin (MeetAll F) m) (ho : az one = one) {s : List Nat} (hs : az s = s) : Up (growAll one m) s ↔ MeetAll (F ++ [one]) s := by
  have lo : Lt one := by rw [← ho]; exact az_lt one
  constructor
  · rintro ⟨g, hg, e⟩
    unfold growAll at hg
    obtain ⟨l, hl, hg⟩ := List.mem_flatten.mp hg
    obtain ⟨had, hh, rfl⟩ := List.mem_map.mp hl
    have lh : Lt had := by rw [← h.az hh]; exact az_lt had
    unfold grow1 at hg
    have hm := h.is hh
    split at hg
    · rename_i c
      rw [List.mem_singleton] at hg
      subst hg
      intro f hf
      rcases List.mem_append.mp hf with z | z
      · exact meets_more (hm f z) e
      · rw [List.mem_singleton] at z
        subst z
        exact meets_more c e
    · obtain ⟨x, hx, rfl⟩ := List.mem_map.mp hg
      have lx : Lt (had ++ [x]) := lh.app fun y hy => by rw [List.mem_singleton] at hy; rw [hy]; exact lo x hx
      have pe := part_iff.mp e
      have ph : part had s = true := part_iff.mpr fun y hy => pe y ((mem_az lx).mpr (by simp [hy]))
      intro f hf
      rcases List.mem_append.mp hf with z | z
      · exact meets_more (hm f z) ph
      · rw [List.mem_singleton] at z
        subst z
        exact meets_iff.mpr ⟨x, pe x ((mem_az lx).mpr (by simp)), hx⟩
  · intro hm
    have h1 : MeetAll F s := fun f hf => hm f (by simp [hf])
    have h2 : meets s one = true := hm one (by simp)
    obtain ⟨had, hh, ph⟩ := h.cover _ s (Nat.le_refl _) hs h1
    have lh : Lt had := by rw [← h.az hh]; exact az_lt had
    by_cases c : meets had one = true
    · refine ⟨had, List.mem_flatten.mpr ⟨_, List.mem_map.mpr ⟨had, hh, rfl⟩, ?_⟩, ph⟩
      unfold grow1
      rw [if_pos c]
      simp
    · obtain ⟨x, hx1, hx2⟩ := meets_iff.mp h2
      have lx : Lt (had ++ [x]) := lh.app fun y hy => by rw [List.mem_singleton] at hy; rw [hy]; exact lo x hx2
      refine ⟨az (had ++ [x]), List.mem_flatten.mpr ⟨_, List.mem_map.mpr ⟨had, hh, rfl⟩, ?_⟩, part_iff.mpr fun y hy => ?_⟩
      · unfold grow1
        rw [if_neg c]
        exact List.mem_map.mpr ⟨x, hx2, rfl⟩
      · rw [mem_az lx] at hy
        rcases List.mem_append.mp hy with z | z
        · exact part_iff.mp ph y z
        · rw [List.mem_singleton] at z
          rw [z]
          exact hx1
theorem grow_az {m : List (List Nat)} {one t : List Nat} (h : ∀ s ∈ m, az s = s) (ht : t ∈ growAll one m) : az t = t := by
  obtain ⟨l, hl, hg⟩ := List.mem_flatten.mp ht
  obtain ⟨had, hh, rfl⟩ := List.mem_map.mp hl
  unfold grow1 at hg
  split at hg
  · rw [List.mem_singleton] at hg
    rw [hg]
    exact h had hh
  · obtain ⟨x, hx, rfl⟩ := List.mem_map.mp hg
    exact az_az _
/-- meeting the least sets is meeting all -/
theorem meet_least {F : List (List Nat)} {m : List (List Nat)} (h : IsMin (Up F) m) (hF : ∀ f ∈ F, az f = f) {s : List Nat} : MeetAll m s ↔ MeetAll F s := by
  have mo : ∀ {a b : List Nat}, meets s a = true → part a b = true → meets s b = true := fun h1 h2 => by
    obtain ⟨x, a, b⟩ := meets_iff.mp h1
    exact meets_iff.mpr ⟨x, a, part_iff.mp h2 x b⟩
  constructor
  · intro hm f hf
    obtain ⟨t, ht, p⟩ := h.cover _ f (Nat.le_refl _) (hF f hf) ⟨f, hf, part_refl f⟩
    exact mo (hm t ht) p
  · intro hm t ht
    obtain ⟨f, hf, p⟩ := h.is ht
    exact mo (hm f hf) p
/-- meeting the meeting sets is holding a set of the family -/
theorem meet_twice {F m : List (List Nat)} (h : IsMin (MeetAll F) m) (hF : ∀ f ∈ F, az f = f) {s : List Nat} (hs : az s = s) : MeetAll m s ↔ Up F s := by
  constructor
  · intro hm
    apply Classical.byContradiction
    intro n
    have hn : ∀ f ∈ F, ∃ x ∈ f, x ∉ s := fun f hf => by
      apply Classical.byContradiction
      intro z
      refine n ⟨f, hf, part_iff.mpr fun x hx => ?_⟩
      apply Classical.byContradiction
      exact fun y => z ⟨x, hx, y⟩
    let c := (List.range' 97 26).filter fun x => !decide (x ∈ s)
    have mc : ∀ x, x ∈ c ↔ (97 ≤ x ∧ x ≤ 122) ∧ x ∉ s := fun x => by
      show x ∈ List.filter _ _ ↔ _
      rw [List.mem_filter, List.mem_range'_1]
      simp
      omega
    have ac : az c = c := by
      show az c = (List.range' 97 26).filter fun x => !decide (x ∈ s)
      unfold az
      refine List.filter_congr fun x hx => ?_
      have := List.mem_range'_1.mp hx
      by_cases z : x ∈ s
      · have : x ∉ c := fun w => ((mc x).mp w).2 z
        simp [this, z]
      · have : x ∈ c := (mc x).mpr ⟨by omega, z⟩
        simp [this, z]
    have hc : MeetAll F c := fun f hf => by
      obtain ⟨x, hx, hxs⟩ := hn f hf
      have lf : Lt f := by rw [← hF f hf]; exact az_lt f
      exact meets_iff.mpr ⟨x, (mc x).mpr ⟨lf x hx, hxs⟩, hx⟩
    obtain ⟨t, ht, p⟩ := h.cover _ c (Nat.le_refl _) ac hc
    obtain ⟨x, h1, h2⟩ := meets_iff.mp (hm t ht)
    exact ((mc x).mp (part_iff.mp p x h2)).2 h1
  · rintro ⟨f, hf, p⟩ t ht
    obtain ⟨x, h1, h2⟩ := meets_iff.mp (h.is ht f hf)
    exact meets_iff.mpr ⟨x, part_iff.mp p x h2, h1⟩
/-! ### the sort of a family's sets -/
theorem strs_tx (ss : List Str) : ss = (ss.map fun s => s.cps.toList).map tx := by
  rw [List.map_map]
  exact (List.map_id' _).symm.trans (List.map_congr_left fun s _ => tx_of s)
theorem sortSet_mem {ss : List Str} {k : Str} : k ∈ sortSet ss ↔ k ∈ ss := by
  unfold sortSet
  rw [(List.mergeSort_perm _ _).mem_iff, mem_dedup]
  simp
theorem few_sets {L : List (List Nat)} {u : List Nat} (h : ∀ t ∈ L, SoN (az u) t) : ((L.map tx).foldl dedup []).length ≤ 2 ^ (az u).length := by
  have := nodup_sub (l := (L.map tx).foldl dedup []) (m := (sets (az u)).map tx) (nodup_dedup List.nodup_nil) fun k hk => by
    rw [mem_dedup] at hk
    rcases hk with hk | hk
    · obtain ⟨t, ht, rfl⟩ := List.mem_map.mp hk
      exact List.mem_map.mpr ⟨t, mem_sets.mpr (h t ht), rfl⟩
    · cases hk
  rwa [List.length_map, sets_len] at this
theorem sortK_map (L : List (List Nat)) : ((L.map tx).mergeSort fun a b => dle (kz a) (kz b)).map D.str = (L.mergeSort leK).map dT := by
  rw [← PySem.W.sort_maps (r := leK) (s := fun a b => dle (kz a) (kz b)) tx fun _ _ _ _ => rfl, List.map_map]
  rfl
theorem fam_join (G : List (List Nat)) : Txt.join (tx []) (G.map tx) = tx G.flatten := by
  rw [join_nil, List.map_map]
  congr 2
  exact (List.map_congr_left fun t _ => tx_cps).trans (List.map_id' G)
theorem fam_sum (G : List (List Nat)) : ((G.map tx).map (·.length)).sum = G.flatten.length := by
  induction G with
  | nil => rfl
  | cons t G ih => simp only [List.map_cons, List.sum_cons, ih, tx_len, List.flatten_cons, List.length_append]
theorem fam_len {G : List (List Nat)} (h : ∀ t ∈ G, t.length ≤ 26) : G.flatten.length ≤ 26 * G.length := by
  induction G with
  | nil => simp
  | cons t G ih =>
    have h1 := h t (by simp)
    have h2 := ih fun t ht => h t (by simp [ht])
    simp only [List.flatten_cons, List.length_append, List.length_cons]
    omega
theorem fam_lt {G : List (List Nat)} (h : ∀ t ∈ G, Lt t) : Lt G.flatten := fun x hx => by
  obtain ⟨t, ht, hx⟩ := List.mem_flatten.mp hx
  exact h t ht x hx
theorem fam_few {G : List (List Nat)} {u : List Nat} (h : ∀ t ∈ G, SoN (az u) t) : (az G.flatten).length ≤ (az u).length := by
  have : SoN (az u) (az G.flatten) := ⟨az_az _, fun x hx => by
    rw [mem_az (fam_lt fun t ht => (h t ht).lt)] at hx
    obtain ⟨t, ht, hx⟩ := List.mem_flatten.mp hx
    exact (h t ht).2 x hx⟩
  have := this.sub
  rw [az_az] at this
  exact this.length_le
theorem min_start : IsMin (MeetAll []) [[]] := by
  refine ⟨by simp, by simp, fun s => ?_⟩
  rw [List.mem_singleton]
  constructor
  · rintro rfl
    exact ⟨rfl, (fun f hf => nomatch hf : MeetAll [] []), fun t _ _ _ => rfl⟩
  · rintro ⟨_, _, h⟩
    have := h [] rfl (fun f hf => nomatch hf : MeetAll [] []) rfl
    rw [part_iff] at this
    cases s with
    | nil => rfl
    | cons x s => exact absurd (this x (by simp)) (by simp)
theorem grow_son {u one : List Nat} {m : List (List Nat)} (h : ∀ s ∈ m, SoN (az u) s) (ho : SoN (az u) one) : ∀ t ∈ growAll one m, SoN (az u) t := fun t ht => by
  refine ⟨grow_az (fun s hs => (h s hs).1) ht, fun x hx => ?_⟩
  obtain ⟨l, hl, hg⟩ := List.mem_flatten.mp ht
  obtain ⟨had, hh, rfl⟩ := List.mem_map.mp hl
  unfold grow1 at hg
  split at hg
  · rw [List.mem_singleton] at hg
    rw [hg] at hx
    exact (h had hh).2 x hx
  · obtain ⟨y, hy, rfl⟩ := List.mem_map.mp hg
    have lx : Lt (had ++ [y]) := (h had hh).lt.app fun z hz => by rw [List.mem_singleton] at hz; rw [hz]; exact ho.lt y hy
    rw [mem_az lx] at hx
    rcases List.mem_append.mp hx with z | z
    · exact (h had hh).2 x z
    · rw [List.mem_singleton] at z
      rw [z]
      exact ho.2 y hy
theorem grow1_len (one had : List Nat) : (grow1 one had).length ≤ 1 + one.length := by
  unfold grow1
  split
  · simp
  · simp
theorem grow_fold {one : List Nat} : ∀ (m G : List (List Nat)), m.foldl (fun G had => G ++ grow1 one had) G = G ++ growAll one m
  | [], G => by simp [growAll]
  | had :: m, G => by
    rw [List.foldl_cons, grow_fold m]
    simp [growAll]
/-! ### f(..).append(e): a new list is changed and let go -/
theorem Grow.over [KC] {H S H' S' : Hp} {p : Addr} {o : HO} {us : List V} (g : Grow H S H' S') (h : H p = none) (h' : S' p = none) (hp : H' p = some (.lst us)) : Grow H S (upd H' p o) S' := by
  refine ⟨g.hh.over h hp (fun _ z => by cases z) (fun _ z => by cases z), g.ss, fun a u e => ?_, g.nw⟩
  · have : a ≠ p := fun z => by rw [z, h'] at e; cases e
    rw [upd_ne this]
    exact g.sh a u e
section
variable [KC] {X : Cx} {E : XK} {e o : Expr} {es : List Expr} {pos mpos apos : Pos} {wl wo : WL} {name id : String}
def wMutF (wo : WL) (g : List D → List D → (List D → Prop) → Prop) (wl : WL) : WS := fun q ρ => wo q.ex ρ fun xs => wl q.ex ρ fun ds => g xs ds fun _ => q.nx ρ
theorem sd_mutF {g : List D → List D → (List D → Prop) → Prop} (hm : MutD X id g) (slot : Slot "list" name id) (hty : typeOf (.builtin id) = pure (.type "method_descriptor")) (ho : DF X E o wo) (ha : AD X E (e :: es) wl)
    (hbase : attributeBase o name X.env (eval o X.env) = eval o X.env := by rfl)
    (hfew : ((backTo mpos (starEach (e :: es) X.env)).all (fun x => !x.1) && (backToKw mpos (keywordEach [] X.env)).all (fun x => x.1.isSome)
      && decide ((e :: es).length + ([] : List Keyword).length + (if ([] : List Keyword).isEmpty then 0 else 1) < 30)) = true := by rfl)
    (hline : (apos.endLine == mpos.line) = true := by rfl) (hst : starEach (e :: es) X.env = (false, eval e X.env) :: starEach es X.env := by rfl) (hplain : (backTo mpos (starEach es X.env)).any (·.1) = false := by rfl)
    (hs : swapsWith (.Call (.Attribute o name apos) (e :: es) [] mpos) none pos.line X.env = pure false := by rfl) :
    SD X E (.Expr (.Call (.Attribute o name apos) (e :: es) [] mpos) pos) (wMutF wo g wl) := by
  obtain ⟨r, mr, so⟩ := hm.ex
  obtain ⟨t, pt, s⟩ := ha.ex
  obtain ⟨to, po, s0⟩ := ho.ex
  refine ⟨_, ps_expr (pe_bm PySem.F.plainAttrs_list slot hty mr po pt hbase hfew hline hst hplain) hs, fun q ρ hw F σ H S D rp ok => ?_⟩
  refine s0 q.ex ρ _ hw F σ H S _ rp (ok.exOk rp) fun xs p us H1 S1 q1 g1 z0 z1 z2 hd => ?_
  refine ⟨.inl ⟨rfl, _, .of z2⟩, ?_⟩
  refine s q.ex ρ _ q1 F σ H1 S1 _ (rp.grow g1) ((ok.exOk rp).grow g1) fun ds vs H2 S2 q2 g2 hds => ?_
  have z3 : S2 p = none := by rw [g2.nw p (by rw [z2]; simp)]; exact z1
  refine so xs ds _ q2 H2 S2 p us vs _ g2.sh (g2.hh.lst z2) (Dats.mono g2.ss _ _ hd) hds fun ys ws v q3 hy => ?_
  exact ok.nx _ _ _ S2 q3 (rp.grow ((g1.trans g2).over z0 z3 (g2.hh.lst z2)))
end
/-! ### a number in a list of numbers -/
section
variable [KC] {X : Cx}
omit [KC] in
theorem inV_int (n : Int) : ∀ ns : List Int, (ns.map V.int).all flatV = true ∧ inV (.int n) (ns.map V.int) = decide (n ∈ ns)
  | [] => ⟨rfl, by simp [inV]⟩
  | m :: ns => by
    obtain ⟨h1, h2⟩ := inV_int n ns
    refine ⟨by rw [List.map_cons, List.all_cons, h1]; rfl, ?_⟩
    unfold inV at h2 ⊢
    rw [List.map_cons, List.any_cons, h2]
    have : eqV (.int m) (.int n) = decide (n = m) := by
      show (m == n) = _
      rw [Bool.eq_iff_iff, beq_iff_eq, decide_eq_true_eq]
      exact eq_comm
    rw [this]
    by_cases e : n = m <;> simp [e]
def gInI (neg : Bool) : D → D → (D → Prop) → Prop
  | .int n, .lst xs, Q => ∃ ns : List Int, xs = ns.map D.int ∧ Q (.bl (neg ^^ decide (n ∈ ns)))
  | _, _, _ => False
theorem dInI (hK : X.K = KC.K := by rfl) : OpD X (compareOp .In) (gInI false) := by
  refine ⟨_, op_in_seq, fun d e Q h H S u v Q' sh hd he k => ?_⟩
  unfold gInI at h
  split at h
  · obtain ⟨ns, rfl, q⟩ := h
    cases hd.i
    obtain ⟨a, ws, rfl, r, z⟩ := he
    have := z.ofInts
    subst this
    obtain ⟨i1, i2⟩ := inV_int _ ns
    exact ⟨a, _, rfl, .inl (.of r), rfl, i1, by rw [i2]; simpa using k _ _ H S q (.refl sh) .b⟩
  · exact h.elim
theorem dNotInI (hK : X.K = KC.K := by rfl) : OpD X (compareOp .NotIn) (gInI true) := by
  refine ⟨_, op_notIn_seq, fun d e Q h H S u v Q' sh hd he k => ?_⟩
  unfold gInI at h
  split at h
  · obtain ⟨ns, rfl, q⟩ := h
    cases hd.i
    obtain ⟨a, ws, rfl, r, z⟩ := he
    have := z.ofInts
    subst this
    obtain ⟨i1, i2⟩ := inV_int _ ns
    exact ⟨a, _, rfl, .inl (.of r), rfl, i1, by rw [i2]; simpa using k _ _ H S q (.refl sh) .b⟩
  · exact h.elim
end
end NL

/-! Sets as numbers. -/
namespace NL
open PySem PySem.Spec L2
open PyProof.Rows hiding St
theorem bitAnd_nat (a b : Nat) : Builtin.bitAnd (a : Int) (b : Int) = ((a &&& b : Nat) : Int) := by
  unfold Builtin.bitAnd
  rw [decide_eq_true (Int.natCast_nonneg a), decide_eq_true (Int.natCast_nonneg b)]
  rfl
theorem bit_at (m k : Nat) : Builtin.bitAnd ((m : Int) / 2 ^ k) 1 = if m.testBit k then 1 else 0 := by
  have e : (m : Int) / 2 ^ k = ((m / 2 ^ k : Nat) : Int) := by
    rw [Int.natCast_ediv]
    congr 1
  rw [e]
  have := bitAnd_nat (m / 2 ^ k) 1
  rw [show ((1 : Nat) : Int) = 1 from rfl] at this
  rw [this, Nat.and_one_is_mod, Nat.testBit_eq_decide_div_mod_eq]
  have h := Nat.mod_two_eq_zero_or_one (m / 2 ^ k)
  rcases h with h | h <;> simp [h]
def dN (m : Nat) : D := .int m
theorem dN_ints (ms : List Nat) : ms.map dN = (ms.map fun m : Nat => (m : Int)).map D.int := by simp [dN, Function.comp_def]
/-- the set that a number tells, of the nails l -/
def setM (l : List Nat) (m : Nat) : List Nat := ((List.range l.length).filter fun k => m.testBit k).map fun k => l.getD k 97
theorem mem_setM {l : List Nat} {m x : Nat} : x ∈ setM l m ↔ ∃ k, k < l.length ∧ m.testBit k = true ∧ l.getD k 97 = x := by
  unfold setM
  rw [List.mem_map]
  constructor
  · rintro ⟨k, hk, e⟩
    rw [List.mem_filter, List.mem_range] at hk
    exact ⟨k, hk.1, hk.2, e⟩
  · rintro ⟨k, h1, h2, e⟩
    exact ⟨k, by rw [List.mem_filter, List.mem_range]; exact ⟨h1, h2⟩, e⟩
theorem getD_inj {l : List Nat} (n : l.Nodup) {i j : Nat} (hi : i < l.length) (hj : j < l.length) (e : l.getD i 97 = l.getD j 97) : i = j := by
  rw [List.getD_eq_getElem?_getD, List.getD_eq_getElem?_getD, List.getElem?_eq_getElem hi, List.getElem?_eq_getElem hj] at e
  have e : l[i] = l[j] := Option.some.inj (by simpa using e)
  have p := List.pairwise_iff_getElem.mp n
  rcases Nat.lt_trichotomy i j with h | h | h
  · exact absurd e (p i j hi hj h)
  · exact h
  · exact absurd e.symm (p j i hj hi h)
theorem mem_setM_at {l : List Nat} (n : l.Nodup) {m k : Nat} (hk : k < l.length) : l.getD k 97 ∈ setM l m ↔ m.testBit k = true := by
  rw [mem_setM]
  constructor
  · rintro ⟨j, hj, h, e⟩
    rw [← getD_inj n hj hk e]
    exact h
  · exact fun h => ⟨k, hk, h, rfl⟩
theorem setM_sub {l : List Nat} {m x : Nat} (h : x ∈ setM l m) : x ∈ l := by
  obtain ⟨k, hk, _, rfl⟩ := mem_setM.mp h
  rw [List.getD_eq_getElem?_getD, List.getElem?_eq_getElem hk]
  exact List.getElem_mem hk
theorem setM_eq : ∀ (l : List Nat) (m : Nat), setM l m = match l with | [] => [] | x :: r => (if m.testBit 0 then [x] else []) ++ setM r (m / 2)
  | [], m => rfl
  | x :: r, m => by
    unfold setM
    simp only [List.length_cons]
    rw [List.range_succ_eq_map, List.filter_cons, List.filter_map]
    have e : (fun k => m.testBit k) ∘ Nat.succ = fun k => (m / 2).testBit k := by
      funext k
      simp only [Function.comp]
      exact Nat.testBit_succ m k
    rw [e]
    split
    · simp [Function.comp_def]
    · simp [Function.comp_def]
theorem setM_sublist : ∀ (l : List Nat) (m : Nat), (setM l m).Sublist l
  | [], m => List.Sublist.refl _
  | x :: r, m => by
    rw [setM_eq]
    have := setM_sublist r (m / 2)
    simp only
    split
    · exact this.cons_cons x
    · exact this.cons x
theorem setM_son {l : List Nat} (h : az l = l) (m : Nat) : SoN (az l) (setM l m) := SoN.of_sub (by rw [h]; exact setM_sublist l m)
theorem part_setM {l : List Nat} (n : l.Nodup) {a b : Nat} (ha : a < 2 ^ l.length) : part (setM l a) (setM l b) = decide (a &&& b = a) := by
  rw [Bool.eq_iff_iff, part_iff, decide_eq_true_eq]
  constructor
  · intro h
    refine Nat.eq_of_testBit_eq fun k => ?_
    rw [Nat.testBit_and]
    by_cases hk : k < l.length
    · cases e : a.testBit k with
      | false => rfl
      | true =>
        have := h _ ((mem_setM_at n hk).mpr e)
        rw [(mem_setM_at n hk).mp this]
        rfl
    · have : a.testBit k = false := Nat.testBit_lt_two_pow (Nat.lt_of_lt_of_le ha (Nat.pow_le_pow_right (by omega) (by omega)))
      rw [this]
      rfl
  · intro h x hx
    obtain ⟨k, hk, hb, rfl⟩ := mem_setM.mp hx
    rw [mem_setM_at n hk]
    rw [← h, Nat.testBit_and, Bool.and_eq_true] at hb
    exact hb.2
theorem setM_inj {l : List Nat} (n : l.Nodup) {a b : Nat} (ha : a < 2 ^ l.length) (hb : b < 2 ^ l.length) (e : setM l a = setM l b) : a = b := by
  have h1 := part_setM n (b := b) ha
  have h2 := part_setM n (b := a) hb
  rw [e, part_refl] at h1
  rw [← e, part_refl] at h2
  have h1 := of_decide_eq_true h1.symm
  have h2 := of_decide_eq_true h2.symm
  rw [← h1, Nat.and_comm, h2]
theorem meets_setM {l : List Nat} (n : l.Nodup) {a b : Nat} (ha : a < 2 ^ l.length) : meets (setM l a) (setM l b) = decide (0 < a &&& b) := by
  rw [Bool.eq_iff_iff, meets_iff, decide_eq_true_eq]
  constructor
  · rintro ⟨x, h1, h2⟩
    obtain ⟨k, hk, hb, rfl⟩ := mem_setM.mp h1
    rw [mem_setM_at n hk] at h2
    apply Nat.pos_of_ne_zero
    intro z
    have : (a &&& b).testBit k = true := by rw [Nat.testBit_and, hb, h2]; rfl
    rw [z] at this
    simp at this
  · intro h
    obtain ⟨k, hk⟩ := Nat.exists_testBit_of_ne_zero (Nat.ne_of_gt h)
    rw [Nat.testBit_and, Bool.and_eq_true] at hk
    have hl : k < l.length := by
      apply Nat.lt_of_not_le
      intro z
      have : a.testBit k = false := Nat.testBit_lt_two_pow (Nat.lt_of_lt_of_le ha (Nat.pow_le_pow_right (by omega) z))
      rw [this] at hk
      exact absurd hk.1 (by simp)
    exact ⟨_, (mem_setM_at n hl).mpr hk.1, (mem_setM_at n hl).mpr hk.2⟩
/-- each set is told by a number -/
theorem setM_onto : ∀ {l s : List Nat}, s.Sublist l → ∃ m, m < 2 ^ l.length ∧ setM l m = s := by
  intro l s h
  induction h with
  | slnil => exact ⟨0, by simp, rfl⟩
  | @cons s l x h ih =>
    obtain ⟨m, hm, e⟩ := ih
    refine ⟨2 * m, by simp only [List.length_cons, Nat.pow_succ]; omega, ?_⟩
    rw [setM_eq]
    simp only
    rw [if_neg (by simp [Nat.testBit_zero]), show 2 * m / 2 = m by omega, e]
    rfl
  | @cons_cons s l x h ih =>
    obtain ⟨m, hm, e⟩ := ih
    refine ⟨2 * m + 1, by simp only [List.length_cons, Nat.pow_succ]; omega, ?_⟩
    rw [setM_eq]
    simp only
    rw [if_pos (by simp [Nat.testBit_zero]), show (2 * m + 1) / 2 = m by omega, e]
    rfl
theorem az_nodup' {l : List Nat} (h : az l = l) : l.Nodup := by rw [← h]; exact az_nodup l
theorem map_nodup {l rs : List Nat} (h : az l = l) (n : rs.Nodup) (b : ∀ r ∈ rs, r < 2 ^ l.length) : (rs.map (setM l)).Nodup := by
  induction rs with
  | nil => exact List.nodup_nil
  | cons r rs ih =>
    obtain ⟨n1, n2⟩ := List.nodup_cons.mp n
    rw [List.map_cons]
    refine List.nodup_cons.mpr ⟨fun z => ?_, ih n2 fun r hr => b r (by simp [hr])⟩
    obtain ⟨o, ho, e⟩ := List.mem_map.mp z
    have := setM_inj (az_nodup' h) (b o (by simp [ho])) (b r (by simp)) e
    exact n1 (this ▸ ho)
theorem texts_min {l ms rs : List Nat} (h : az l = l) (hms : ∀ m ∈ ms, m < 2 ^ l.length) (hn : rs.Nodup) (hr : ∀ r, r ∈ rs ↔ r ∈ ms ∧ ∀ o ∈ ms, o &&& r = o → o = r) : IsMin (Up (ms.map (setM l))) ((rs.map (setM l)).mergeSort leK) := by
  have nd := az_nodup' h
  have azs : ∀ m, az (setM l m) = setM l m := fun m => (setM_son h m).1
  refine ⟨PySem.W.sort_pairwise leK_total _, (List.mergeSort_perm _ _).nodup_iff.mpr (map_nodup h hn fun r hr' => hms r ((hr r).mp hr').1), fun s => ?_⟩
  rw [(List.mergeSort_perm _ _).mem_iff, List.mem_map]
  constructor
  · rintro ⟨r, hr', rfl⟩
    obtain ⟨h1, h2⟩ := (hr r).mp hr'
    refine ⟨azs r, ⟨_, List.mem_map.mpr ⟨r, h1, rfl⟩, part_refl _⟩, fun t ht ⟨u, hu, p⟩ pt => ?_⟩
    obtain ⟨o, ho, rfl⟩ := List.mem_map.mp hu
    have pp := part_trans p pt
    rw [part_setM nd (hms o ho), decide_eq_true_eq] at pp
    rw [← h2 o ho pp]
    exact p
  · rintro ⟨h1, ⟨u, hu, p⟩, h3⟩
    obtain ⟨o, ho, rfl⟩ := List.mem_map.mp hu
    have q := h3 _ (azs o) ⟨_, List.mem_map.mpr ⟨o, ho, rfl⟩, part_refl _⟩ p
    have es := part_anti h1 (azs o) q p
    refine ⟨o, (hr o).mpr ⟨ho, fun o' ho' e => ?_⟩, es.symm⟩
    have p1 : part (setM l o') (setM l o) = true := by rw [part_setM nd (hms o' ho')]; simp [e]
    have p2 := h3 _ (azs o') ⟨_, List.mem_map.mpr ⟨o', ho', rfl⟩, part_refl _⟩ (by rw [es]; exact p1)
    rw [es] at p2
    exact setM_inj nd (hms o' ho') (hms o ho) (part_anti (azs o') (azs o) p1 p2)
/-- the numbers of the sets that meet all -/
def meetN (n : Nat) (ms : List Nat) : List Nat := (List.range (2 ^ n)).filter fun c => ms.all fun m => decide (0 < c &&& m)
theorem meetN_up {l ms : List Nat} (h : az l = l) {s : List Nat} (hs : az s = s) : Up ((meetN l.length ms).map (setM l)) s ↔ MeetAll (ms.map (setM l)) s := by
  have nd := az_nodup' h
  constructor
  · rintro ⟨t, ht, p⟩ f hf
    obtain ⟨c, hc, rfl⟩ := List.mem_map.mp ht
    obtain ⟨m, hm, rfl⟩ := List.mem_map.mp hf
    unfold meetN at hc
    rw [List.mem_filter, List.mem_range, List.all_eq_true] at hc
    refine meets_more ?_ p
    rw [meets_setM nd hc.1]
    exact hc.2 m hm
  · intro hm
    have lt : Lt (s.filter fun x => decide (x ∈ l)) := fun x hx => by
      have := (List.mem_filter.mp hx).1
      rw [← hs] at this
      exact az_lt s x this
    have mt : ∀ x, x ∈ az (s.filter fun x => decide (x ∈ l)) ↔ x ∈ s ∧ x ∈ l := fun x => by
      rw [mem_az lt, List.mem_filter, decide_eq_true_eq]
    have so : SoN l (az (s.filter fun x => decide (x ∈ l))) := ⟨az_az _, fun x hx => ((mt x).mp hx).2⟩
    have sub := so.sub
    rw [h] at sub
    obtain ⟨c, hc, e⟩ := setM_onto sub
    refine ⟨setM l c, List.mem_map.mpr ⟨c, ?_, rfl⟩, part_iff.mpr fun x hx => ((mt x).mp (by rw [← e]; exact hx)).1⟩
    unfold meetN
    rw [List.mem_filter, List.mem_range, List.all_eq_true]
    refine ⟨hc, fun m hm' => ?_⟩
    rw [← meets_setM nd hc, meets_iff]
    obtain ⟨x, h1, h2⟩ := meets_iff.mp (hm _ (List.mem_map.mpr ⟨m, hm', rfl⟩))
    exact ⟨x, by rw [e]; exact (mt x).mpr ⟨h1, setM_sub h2⟩, h2⟩
theorem sor_nails {l : List Nat} (n : l.Nodup) (h : Lt l) : Srt1 (l.map dS) ∧ sorD (l.map dS) = (az l).map dS := by
  refine ⟨⟨fun d hd => ?_, fun d hd e he => ?_, ?_⟩, ?_⟩
  · obtain ⟨c, hc, rfl⟩ := List.mem_map.mp hd
    have := tx_ok (l := [c]) fun y hy => by rw [List.mem_singleton] at hy; rw [hy]; exact h c hc
    simp [dS, nb, this]
  · obtain ⟨a, _, rfl⟩ := List.mem_map.mp hd
    obtain ⟨b, _, rfl⟩ := List.mem_map.mp he
    exact PySem.W.DatumOrd.alike (α := Str) _ _
  · rw [List.map_map]
    exact PySem.W.Sortable.others fun c => ⟨by simp [py, dS, toPy], fun xs => by simp [py, dS, toPy]⟩
  · have e1 : l.map dS = (l.map fun c => tx [c]).map D.str := by simp [dS, Function.comp_def]
    unfold sorD
    rw [e1, ← PySem.W.sort_maps (r := leS) (s := dle) D.str fun a _ b _ => (congrFun (congrFun leS_eq a) b).symm.trans rfl]
    have nd : (l.map fun c => tx [c]).Nodup := List.Pairwise.map (R := fun a b => a ≠ b) _ (fun a b h z => h (tx_one_inj z)) n
    have p : (l.map fun c => tx [c]).Perm ((l.map fun c => tx [c]).foldl dedup []) := (List.perm_ext_iff_of_nodup nd (nodup_dedup List.nodup_nil)).mpr fun k => by rw [mem_dedup]; simp
    rw [sort_perm p]
    have := sortSet_az h
    unfold sortSet at this
    rw [this]
    simp [dS, Function.comp_def]
/-- a comprehension within another one's test or row -/
theorem blkOk_in {N : List Str} {scope1 sc : Scope} {cl : List (Str × Addr)} {C : Addr} {e : Env} {scope : Scope} {own : List (Str × Nat)} (he : e.scope = sc) (h : blkC N (relS scope1 sc) scope own = true) : BlkOk N (compEnvC scope1 cl C e).scope scope own := by
  subst he
  exact blkOk_by h
end NL

/-! Round and back; the cord of a family of sets. -/
namespace NL
open PySem PySem.Spec L2
open PyProof.Rows hiding St
def rbF : Nat → List Nat → List Pc
  | 0, _ => []
  | n + 1, s => if s.length ≤ 1 then s.map fun x => ((tx [x], 1) : Pc) else
      rbF n (s.take ((s.length + 1) / 2)) ++ rbF n (s.drop ((s.length + 1) / 2)) ++ con (rbF n (s.take ((s.length + 1) / 2))) ++ con (rbF n (s.drop ((s.length + 1) / 2)))
def rb (s : List Nat) : List Pc := rbF s.length s
theorem rbF_fuel : ∀ (n m : Nat) (s : List Nat), s.length ≤ n → s.length ≤ m → rbF n s = rbF m s
  | 0, m, s, h, _ => by
    have : s = [] := List.length_eq_zero_iff.mp (by omega)
    subst this
    cases m with
    | zero => rfl
    | succ m => simp [rbF]
  | n + 1, 0, s, _, h => by
    have : s = [] := List.length_eq_zero_iff.mp (by omega)
    subst this
    simp [rbF]
  | n + 1, m + 1, s, h, g => by
    unfold rbF
    split
    · rfl
    · rename_i hl
      have a : (s.take ((s.length + 1) / 2)).length ≤ s.length - 1 := by rw [List.length_take]; omega
      have b : (s.drop ((s.length + 1) / 2)).length ≤ s.length - 1 := by rw [List.length_drop]; omega
      rw [rbF_fuel n m _ (by omega) (by omega), rbF_fuel n m (s.drop _) (by omega) (by omega)]
theorem rb_one (x : Nat) : rb [x] = [(tx [x], 1)] := rfl
theorem rb_nil : rb [] = [] := rfl
theorem rb_two {s : List Nat} (h : 2 ≤ s.length) : rb s = rb (s.take ((s.length + 1) / 2)) ++ rb (s.drop ((s.length + 1) / 2)) ++ con (rb (s.take ((s.length + 1) / 2))) ++ con (rb (s.drop ((s.length + 1) / 2))) := by
  have a : (s.take ((s.length + 1) / 2)).length ≤ s.length - 1 := by rw [List.length_take]; omega
  have b : (s.drop ((s.length + 1) / 2)).length ≤ s.length - 1 := by rw [List.length_drop]; omega
  obtain ⟨n, hn⟩ : ∃ n, s.length = n + 1 := ⟨s.length - 1, by omega⟩
  have e : rb s = rbF (n + 1) s := by unfold rb; rw [hn]
  rw [e]
  unfold rbF
  rw [if_neg (by omega)]
  unfold rb
  rw [rbF_fuel n (s.take ((s.length + 1) / 2)).length _ (by omega) (Nat.le_refl _), rbF_fuel n (s.drop ((s.length + 1) / 2)).length _ (by omega) (Nat.le_refl _)]
/-- by halves -/
theorem half_ind {P : List Nat → Prop} (h0 : P []) (h1 : ∀ x, P [x]) (h2 : ∀ s : List Nat, 2 ≤ s.length → P (s.take ((s.length + 1) / 2)) → P (s.drop ((s.length + 1) / 2)) → P s) : ∀ (n : Nat) (s : List Nat), s.length ≤ n → P s
  | 0, s, h => by
    have : s = [] := List.length_eq_zero_iff.mp (by omega)
    subst this
    exact h0
  | n + 1, s, h => by
    by_cases hl : 2 ≤ s.length
    · exact h2 s hl (half_ind h0 h1 h2 n _ (by rw [List.length_take]; omega)) (half_ind h0 h1 h2 n _ (by rw [List.length_drop]; omega))
    · match s, hl with
      | [], _ => exact h0
      | [x], _ => exact h1 x
      | _ :: _ :: _, hl => exact absurd (by simp) hl
theorem half {P : List Nat → Prop} (h0 : P []) (h1 : ∀ x, P [x]) (h2 : ∀ s : List Nat, 2 ≤ s.length → P (s.take ((s.length + 1) / 2)) → P (s.drop ((s.length + 1) / 2)) → P s) (s : List Nat) : P s := half_ind h0 h1 h2 _ s (Nat.le_refl _)
theorem mem_con {c : List Pc} {p : Pc} (h : p ∈ con c) : ∃ q ∈ c, p.1 = q.1 ∧ p.2 = -q.2 := by
  unfold con at h
  obtain ⟨q, hq, rfl⟩ := List.mem_map.mp h
  exact ⟨q, List.mem_reverse.mp hq, rfl, rfl⟩
theorem rb_on (s : List Nat) : ∀ p ∈ rb s, ∃ x ∈ s, p.1 = tx [x] ∧ (p.2 = 1 ∨ p.2 = -1) := by
  refine half (P := fun s => ∀ p ∈ rb s, ∃ x ∈ s, p.1 = tx [x] ∧ (p.2 = 1 ∨ p.2 = -1)) ?_ ?_ ?_ s
  · intro p hp
    cases hp
  · intro x p hp
    rw [rb_one, List.mem_singleton] at hp
    subst hp
    exact ⟨x, by simp, rfl, .inl rfl⟩
  · intro s hl i1 i2 p hp
    rw [rb_two hl] at hp
    rcases List.mem_append.mp hp with hp | hp
    · rcases List.mem_append.mp hp with hp | hp
      · rcases List.mem_append.mp hp with hp | hp
        · obtain ⟨x, hx, r⟩ := i1 p hp
          exact ⟨x, List.mem_of_mem_take hx, r⟩
        · obtain ⟨x, hx, r⟩ := i2 p hp
          exact ⟨x, List.mem_of_mem_drop hx, r⟩
      · obtain ⟨q, hq, e1, e2⟩ := mem_con hp
        obtain ⟨x, hx, r1, r2⟩ := i1 q hq
        exact ⟨x, List.mem_of_mem_take hx, by rw [e1, r1], by omega⟩
    · obtain ⟨q, hq, e1, e2⟩ := mem_con hp
      obtain ⟨x, hx, r1, r2⟩ := i2 q hq
      exact ⟨x, List.mem_of_mem_drop hx, by rw [e1, r1], by omega⟩
theorem rb_all (s : List Nat) : ∀ x ∈ s, ∃ p ∈ rb s, p.1 = tx [x] := by
  refine half (P := fun s => ∀ x ∈ s, ∃ p ∈ rb s, p.1 = tx [x]) ?_ ?_ ?_ s
  · intro x hx
    cases hx
  · intro x y hy
    rw [List.mem_singleton] at hy
    subst hy
    exact ⟨(tx [y], 1), by rw [rb_one]; simp, rfl⟩
  · intro s hl i1 i2 x hx
    rw [rb_two hl]
    rw [← List.take_append_drop ((s.length + 1) / 2) s] at hx
    rcases List.mem_append.mp hx with h | h
    · obtain ⟨p, hp, e⟩ := i1 x h
      exact ⟨p, by simp [hp], e⟩
    · obtain ⟨p, hp, e⟩ := i2 x h
      exact ⟨p, by simp [hp], e⟩
theorem rb_nl {s : List Nat} (h : Lt s) : Nl (rb s) := fun p hp => by
  obtain ⟨x, hx, e, _⟩ := rb_on s p hp
  exact ⟨x, e, h x hx⟩
theorem rb_ne {s : List Nat} (h : s ≠ []) : rb s ≠ [] := by
  obtain ⟨x, hx⟩ := List.exists_mem_of_length_pos (List.length_pos_iff.mpr h)
  obtain ⟨p, hp, _⟩ := rb_all s x hx
  exact fun z => by rw [z] at hp; cases hp
theorem head_mem {α : Type} {l : List α} {x : α} (h : l.head? = some x) : x ∈ l := by
  cases l with
  | nil => cases h
  | cons y l => cases h; simp
theorem last_mem {α : Type} {l : List α} {x : α} (h : l.getLast? = some x) : x ∈ l := by
  rw [← List.head?_reverse] at h
  exact List.mem_reverse.mp (head_mem h)
theorem last_app {α : Type} {a b : List α} (h : b ≠ []) : (a ++ b).getLast? = b.getLast? := by
  rw [List.getLast?_append]
  cases e : b.getLast? with
  | none => exact absurd (List.getLast?_eq_none_iff.mp e) h
  | some x => rfl
theorem rb_red (s : List Nat) : s.Nodup → Red (rb s) := by
  refine half (P := fun s => s.Nodup → Red (rb s)) ?_ ?_ ?_ s
  · exact fun _ => trivial
  · intro x _
    rw [rb_one]
    exact Red.mk (show (1 : Int) ≠ 0 by decide) (fun q h => by cases h) trivial
  · intro s hl i1 i2 nd
    have nd' := nd
    rw [← List.take_append_drop ((s.length + 1) / 2) s, List.nodup_append] at nd'
    obtain ⟨n1, n2, n3⟩ := nd'
    have r1 := i1 n1
    have r2 := i2 n2
    have o1 := rb_on (s.take ((s.length + 1) / 2))
    have o2 := rb_on (s.drop ((s.length + 1) / 2))
    have c1 : ∀ p ∈ con (rb (s.take ((s.length + 1) / 2))), ∃ x ∈ s.take ((s.length + 1) / 2), p.1 = tx [x] := fun p hp => by
      obtain ⟨q, hq, e1, _⟩ := mem_con hp
      obtain ⟨x, hx, r, _⟩ := o1 q hq
      exact ⟨x, hx, by rw [e1, r]⟩
    have c2 : ∀ p ∈ con (rb (s.drop ((s.length + 1) / 2))), ∃ x ∈ s.drop ((s.length + 1) / 2), p.1 = tx [x] := fun p hp => by
      obtain ⟨q, hq, e1, _⟩ := mem_con hp
      obtain ⟨x, hx, r, _⟩ := o2 q hq
      exact ⟨x, hx, by rw [e1, r]⟩
    have apart : ∀ {p q : Pc}, (∃ x ∈ s.take ((s.length + 1) / 2), p.1 = tx [x]) → (∃ x ∈ s.drop ((s.length + 1) / 2), q.1 = tx [x]) → p.1 ≠ q.1 := by
      rintro p q ⟨x, hx, e⟩ ⟨y, hy, e'⟩ z
      rw [e, e'] at z
      have := tx_one_inj z
      exact n3 x hx y hy this
    have o1' : ∀ p ∈ rb (s.take ((s.length + 1) / 2)), ∃ x ∈ s.take ((s.length + 1) / 2), p.1 = tx [x] := fun p hp => by obtain ⟨x, hx, e, _⟩ := o1 p hp; exact ⟨x, hx, e⟩
    have o2' : ∀ p ∈ rb (s.drop ((s.length + 1) / 2)), ∃ x ∈ s.drop ((s.length + 1) / 2), p.1 = tx [x] := fun p hp => by obtain ⟨x, hx, e, _⟩ := o2 p hp; exact ⟨x, hx, e⟩
    rw [rb_two hl]
    have ne1 : rb (s.take ((s.length + 1) / 2)) ≠ [] := rb_ne fun z => by have := congrArg List.length z; rw [List.length_take, List.length_nil] at this; omega
    have ne2 : rb (s.drop ((s.length + 1) / 2)) ≠ [] := rb_ne fun z => by have := congrArg List.length z; rw [List.length_drop, List.length_nil] at this; omega
    generalize rb (s.take ((s.length + 1) / 2)) = A at *
    generalize rb (s.drop ((s.length + 1) / 2)) = B at *
    have hAB : Red (A ++ B) := red_join r1 r2 fun p q hp hq => apart (o1' p (last_mem hp)) (o2' q (head_mem hq))
    have hABc : Red (A ++ B ++ con A) := red_join hAB (con_red r1) fun p q hp hq => by
      rw [last_app ne2] at hp
      exact (apart (c1 q (head_mem hq)) (o2' p (last_mem hp))).symm
    have nec : con A ≠ [] := fun z => ne1 (by have := congrArg List.length z; rw [con_len] at this; exact List.length_eq_zero_iff.mp this)
    refine red_join hABc (con_red r2) fun p q hp hq => ?_
    rw [last_app nec] at hp
    exact apart (c1 p (last_mem hp)) (c2 q (head_mem hq))
theorem wo_app (l : List Nat) (a b : List Pc) : wo l (a ++ b) = wo l a ++ wo l b := List.filter_append ..
theorem wo_con (l : List Nat) (a : List Pc) : wo l (con a) = con (wo l a) := by
  unfold wo con
  rw [List.filter_map, ← List.filter_reverse]
  congr 1
theorem eqv_wo_nil {l : List Nat} {c : List Pc} (h : nf (wo l c) = []) : Eqv (wo l c) [] := nf_eqv h
/-- a nail out, it falls -/
theorem rb_out (l s : List Nat) : (∃ x ∈ s, x ∈ l) → nf (wo l (rb s)) = [] := by
  refine half (P := fun s => (∃ x ∈ s, x ∈ l) → nf (wo l (rb s)) = []) ?_ ?_ ?_ s
  · rintro ⟨x, hx, _⟩
    cases hx
  · rintro x ⟨y, hy, hl⟩
    rw [List.mem_singleton] at hy
    subst hy
    rw [rb_one]
    unfold wo
    rw [List.filter_cons, onN_iff (x := y) rfl, if_neg (by simp [hl])]
    rfl
  · rintro s hl i1 i2 ⟨x, hx, hxl⟩
    rw [rb_two hl, wo_app, wo_app, wo_app, wo_con, wo_con]
    rw [← List.take_append_drop ((s.length + 1) / 2) s] at hx
    rcases List.mem_append.mp hx with h | h
    · have e := eqv_wo_nil (i1 ⟨x, h, hxl⟩)
      generalize wo l (rb (s.take ((s.length + 1) / 2))) = A at *
      generalize wo l (rb (s.drop ((s.length + 1) / 2))) = B at *
      have e2 : Eqv (con A) [] := eqv_con_congr e
      have z := (((e.app (Eqv.refl B)).app e2).app (Eqv.refl (con B))).nf
      rw [z]
      simpa using nf_con B
    · have e := eqv_wo_nil (i2 ⟨x, h, hxl⟩)
      generalize wo l (rb (s.take ((s.length + 1) / 2))) = A at *
      generalize wo l (rb (s.drop ((s.length + 1) / 2))) = B at *
      have e2 : Eqv (con B) [] := eqv_con_congr e
      have z := ((((Eqv.refl A).app e).app (Eqv.refl (con A))).app e2).nf
      rw [z]
      simpa using nf_con A
/-- the others out, it stays -/
theorem rb_in {l s : List Nat} (h : ∀ x ∈ s, x ∉ l) : wo l (rb s) = rb s := by
  unfold wo
  refine List.filter_eq_self.mpr fun p hp => ?_
  obtain ⟨x, hx, e, _⟩ := rb_on s p hp
  rw [onN_iff e]
  simp [h x hx]
/-- how many pieces -/
def pzF : Nat → Nat → Nat
  | 0, _ => 0
  | n + 1, k => if k ≤ 1 then k else 2 * (pzF n ((k + 1) / 2) + pzF n (k - (k + 1) / 2))
def pz (k : Nat) : Nat := pzF k k
theorem pzF_len : ∀ (n : Nat) (s : List Nat), (rbF n s).length = pzF n s.length
  | 0, s => rfl
  | n + 1, s => by
    unfold rbF pzF
    split
    · simp
    · simp only [List.length_append, con_len, pzF_len n, List.length_take, List.length_drop]
      rw [Nat.min_eq_left (by omega)]
      omega
theorem rb_len (s : List Nat) : (rb s).length = pz s.length := pzF_len _ s
theorem pzF_fuel : ∀ (n m k : Nat), k ≤ n → k ≤ m → pzF n k = pzF m k
  | 0, m, k, h, _ => by
    have : k = 0 := by omega
    subst this
    cases m with
    | zero => rfl
    | succ m => rfl
  | n + 1, 0, k, _, h => by
    have : k = 0 := by omega
    subst this
    rfl
  | n + 1, m + 1, k, h, g => by
    unfold pzF
    split
    · rfl
    · rw [pzF_fuel n m _ (by omega) (by omega), pzF_fuel n m (k - _) (by omega) (by omega)]
theorem pz_two {k : Nat} (h : 2 ≤ k) : pz k = 2 * (pz ((k + 1) / 2) + pz (k - (k + 1) / 2)) := by
  obtain ⟨n, rfl⟩ : ∃ n, k = n + 1 := ⟨k - 1, by omega⟩
  have e : pz (n + 1) = pzF (n + 1) (n + 1) := rfl
  rw [e]
  unfold pzF
  rw [if_neg (by omega)]
  unfold pz
  rw [pzF_fuel n _ ((n + 1 + 1) / 2) (by omega) (Nat.le_refl _), pzF_fuel n _ (n + 1 - (n + 1 + 1) / 2) (by omega) (Nat.le_refl _)]
/-- the cord of some sets -/
def crd (M : List (List Nat)) : List Pc := (M.map rb).flatten
theorem crd_len (M : List (List Nat)) : (crd M).length = (M.map fun s => pz s.length).sum := by
  unfold crd
  rw [List.length_flatten, List.map_map]
  congr 1
  exact List.map_congr_left fun s _ => rb_len s
theorem crd_nl {M : List (List Nat)} (h : ∀ s ∈ M, Lt s) : Nl (crd M) := fun p hp => by
  obtain ⟨c, hc, hp⟩ := List.mem_flatten.mp hp
  obtain ⟨s, hs, rfl⟩ := List.mem_map.mp hc
  exact rb_nl (h s hs) p hp
theorem crd_gd {M : List (List Nat)} : ∀ p ∈ crd M, p.2 = 1 ∨ p.2 = -1 := fun p hp => by
  obtain ⟨c, hc, hp⟩ := List.mem_flatten.mp hp
  obtain ⟨s, hs, rfl⟩ := List.mem_map.mp hc
  obtain ⟨_, _, _, e⟩ := rb_on s p hp
  exact e
theorem crd_app (M N : List (List Nat)) : crd (M ++ N) = crd M ++ crd N := by simp [crd]
theorem crd_out {l : List Nat} : ∀ {M : List (List Nat)}, (∀ m ∈ M, ∃ x ∈ m, x ∈ l) → nf (wo l (crd M)) = []
  | [], _ => rfl
  | m :: M, h => by
    have e1 := eqv_wo_nil (rb_out l m (h m (by simp)))
    have e2 := eqv_wo_nil (crd_out (l := l) (M := M) fun x hx => h x (by simp [hx]))
    show nf (wo l (rb m ++ crd M)) = []
    rw [wo_app]
    exact (e1.app e2).nf
theorem crd_but {l m : List Nat} : ∀ {M : List (List Nat)}, M.Nodup → m ∈ M → (∀ s ∈ M, s ≠ m → ∃ x ∈ s, x ∈ l) → (∀ x ∈ m, x ∉ l) → nf (wo l (crd M)) = nf (rb m)
  | [], _, hm, _, _ => by cases hm
  | s :: M, nd, hm, h, hl => by
    obtain ⟨n1, n2⟩ := List.nodup_cons.mp nd
    show nf (wo l (rb s ++ crd M)) = _
    rw [wo_app]
    by_cases e : s = m
    · subst e
      have e2 := eqv_wo_nil (crd_out (l := l) (M := M) fun x hx => h x (by simp [hx]) fun z => n1 (z ▸ hx))
      rw [rb_in hl]
      have := ((Eqv.refl (rb s)).app e2).nf
      rw [this, List.append_nil]
    · have e1 := eqv_wo_nil (rb_out l s (h s (by simp) e))
      have ih := crd_but (l := l) n2 ((List.mem_cons.mp hm).resolve_left fun z => e z.symm) (fun x hx => h x (by simp [hx])) hl
      rw [← ih]
      exact (e1.app (Eqv.refl _)).nf
/-! ### the letters that are not in a set -/
def cpl (s : List Nat) : List Nat := (List.range' 97 26).filter fun x => !decide (x ∈ s)
theorem mem_cpl {s : List Nat} {x : Nat} : x ∈ cpl s ↔ (97 ≤ x ∧ x ≤ 122) ∧ x ∉ s := by
  unfold cpl
  rw [List.mem_filter, List.mem_range'_1]
  simp
  omega
theorem az_cpl (s : List Nat) : az (cpl s) = cpl s := by
  show az (cpl s) = (List.range' 97 26).filter fun x => !decide (x ∈ s)
  unfold az
  refine List.filter_congr fun x hx => ?_
  have := List.mem_range'_1.mp hx
  by_cases z : x ∈ s
  · have : x ∉ cpl s := fun w => (mem_cpl.mp w).2 z
    simp [this, z]
  · have : x ∈ cpl s := mem_cpl.mpr ⟨by omega, z⟩
    simp [this, z]
theorem IsMin.lt {P : List Nat → Prop} {m : List (List Nat)} (h : IsMin P m) : ∀ t ∈ m, Lt t := fun t ht => by rw [← h.az ht]; exact az_lt t
/-- the cord of the meeting sets falls just by the family -/
theorem crd_falls {F M : List (List Nat)} (hF : ∀ f ∈ F, az f = f) (h0 : F ≠ []) (hM : IsMin (MeetAll F) M) {l : List Nat} : nf (wo l (crd M)) = [] ↔ Up F l := by
  constructor
  · intro hf
    apply Classical.byContradiction
    intro n
    have hc : MeetAll F (cpl l) := fun f hf => by
      apply Classical.byContradiction
      intro z
      refine n ⟨f, hf, part_iff.mpr fun x hx => ?_⟩
      apply Classical.byContradiction
      intro w
      have lf : Lt f := by rw [← hF f hf]; exact az_lt f
      exact z (meets_iff.mpr ⟨x, mem_cpl.mpr ⟨lf x hx, w⟩, hx⟩)
    obtain ⟨m, hm, p⟩ := hM.cover _ (cpl l) (Nat.le_refl _) (az_cpl l) hc
    have ml : ∀ x ∈ m, x ∉ l := fun x hx => (mem_cpl.mp (part_iff.mp p x hx)).2
    have lm := hM.lt m hm
    have ndm : m.Nodup := by rw [← hM.az hm]; exact az_nodup m
    have mne : m ≠ [] := fun z => by
      obtain ⟨f, hf⟩ := List.exists_mem_of_length_pos (List.length_pos_iff.mpr h0)
      obtain ⟨x, hx, _⟩ := meets_iff.mp (hM.is hm f hf)
      rw [z] at hx
      cases hx
    have e := wo_fall (l := cpl m) (show nf (wo l (crd M)) = nf [] from hf)
    rw [wo_wo] at e
    have b := crd_but (l := l ++ cpl m) hM.2.1 hm (fun s hs ne => by
      apply Classical.byContradiction
      intro z
      apply ne
      have ps : part s m = true := part_iff.mpr fun x hx => by
        apply Classical.byContradiction
        intro w
        exact z ⟨x, hx, List.mem_append.mpr (.inr (mem_cpl.mpr ⟨hM.lt s hs x hx, w⟩))⟩
      exact part_anti (hM.az hs) (hM.az hm) ps (((hM.2.2 m).mp hm).2.2 s (hM.az hs) (hM.is hs) ps)) (fun x hx z => by
        rcases List.mem_append.mp z with z | z
        · exact ml x hx z
        · exact (mem_cpl.mp z).2 hx)
    rw [b, red_nf (rb_red m ndm)] at e
    exact rb_ne mne e
  · rintro ⟨f, hf, p⟩
    refine crd_out fun m hm => ?_
    obtain ⟨x, h1, h2⟩ := meets_iff.mp (hM.is hm f hf)
    exact ⟨x, h1, part_iff.mp p x h2⟩
theorem crd_fam {F M : List (List Nat)} (hF : IsMin (Up F) F) (h0 : F ≠ []) (hM : IsMin (MeetAll F) M) : fallsG (nf (crd M)) (az (lts (nf (crd M)))) = F := by
  have nl : Nl (nf (crd M)) := (crd_nl hM.lt).nf
  have e := fallsG_same (l := lts (nf (crd M))) (m := List.range' 97 26) nl (fun x hx => (mem_az (lts_lt nl)).mpr hx) fun x hx => (mem_az lt_az).mpr (by
    have := az_lt _ x hx
    exact List.mem_range'_1.mpr ⟨this.1, by omega⟩)
  rw [e]
  have all : ∀ s, az s = s → SoN (az (List.range' 97 26)) s := fun s hs => ⟨hs, fun x hx => (mem_az lt_az).mpr (by
    rw [← hs] at hx
    have := az_lt _ x hx
    exact List.mem_range'_1.mpr ⟨this.1, by omega⟩)⟩
  have fl : ∀ s, nf (wo s (nf (crd M))) = [] ↔ Up F s := fun s => by
    rw [wo_nf]
    exact crd_falls (fun f hf => hF.az hf) h0 hM
  refine IsMin.eq (P := Up F) (Q := Up F) ⟨(sets_sorted _).sublist (greedy_sub _ _), greedy_nodup _ _, fun s => ?_⟩ hF fun _ _ => Iff.rfl
  rw [mem_fallsG]
  constructor
  · rintro ⟨a, b, c⟩
    exact ⟨a.1, (fl s).mp b, fun t ht ut pt => c t (all t ht) ((fl t).mpr ut) pt⟩
  · rintro ⟨a, b, c⟩
    exact ⟨all s a, (fl s).mpr b, fun t ht ft pt => c t ht.1 ((fl t).mp ft) pt⟩
theorem compL_some {α : Type} {g : WG} {wt : WT} {we : WE} {ρ : Ev} {Q : List D → Prop} (f : α → D) (h : α → D) : ∀ (xs : List α) (acc : List D), (∀ a ∈ xs, ∀ (Q' : Bool → Ev → Prop), (∀ b ρ2, (∀ (Q2 : D → Prop), Q2 (h a) → we X0 ρ2 Q2) → Q' b ρ2) → g (f a) ρ fun ρ2 => wt X0 ρ2 fun b => Q' b ρ2) → acc.length + xs.length ≤ sizeLine → (∀ ys : List α, ys.Sublist xs → Q (acc ++ ys.map h)) → compL g wt we ρ Q (xs.map f) acc
  | [], acc, _, _, q => by simpa [compL] using q [] (List.Sublist.refl _)
  | a :: xs, acc, he, hl, q => by
    simp only [List.map_cons, compL]
    refine he a (by simp) (fun b ρ2 => Br b (we X0 ρ2 fun y => acc.length < sizeLine ∧ compL g wt we ρ Q (xs.map f) (acc ++ [y])) (compL g wt we ρ Q (xs.map f) acc) ⟨⟩ ⟨⟩) fun b ρ2 hw => ?_
    have ih := fun acc => compL_some (Q := Q) f h xs acc (fun b hb => he b (by simp [hb]))
    cases b with
    | true =>
      rw [Br_true]
      refine hw _ ⟨by simp at hl; omega, ih _ (by simp at hl ⊢; omega) fun ys hy => ?_⟩
      have := q (a :: ys) (hy.cons_cons a)
      simpa using this
    | false =>
      rw [Br_false]
      exact ih _ (by simp at hl ⊢; omega) fun ys hy => q ys (hy.cons a)
/-! ### how long such a cord is -/
theorem sum_sub {f : List Nat → Nat} : ∀ {M L : List (List Nat)}, M.Nodup → (∀ x ∈ M, x ∈ L) → (M.map f).sum ≤ (L.map f).sum
  | [], L, _, _ => Nat.zero_le _
  | m :: M, L, nd, h => by
    obtain ⟨n1, n2⟩ := List.nodup_cons.mp nd
    have hm := h m (by simp)
    have ih := sum_sub (f := f) (M := M) (L := L.erase m) n2 fun x hx => (List.mem_erase_of_ne (fun e : x = m => n1 (by rw [← e]; exact hx))).mpr (h x (by simp [hx]))
    have p := ((List.perm_cons_erase hm).map f).sum_nat
    rw [p, List.map_cons, List.sum_cons, List.map_cons, List.sum_cons]
    omega
def lens : Nat → List Nat
  | 0 => [0]
  | n + 1 => lens n ++ (lens n).map (· + 1)
theorem subs_snoc (l : List Nat) (x : Nat) : subs (l ++ [x]) = subs l ++ (subs l).map (· ++ [x]) := by simp [subs, List.foldl_append]
theorem subs_lens : ∀ (n : Nat) (l : List Nat), l.length = n → (subs l).map List.length = lens n
  | 0, l, h => by
    have : l = [] := List.length_eq_zero_iff.mp h
    subst this
    rfl
  | n + 1, l, h => by
    have hne : l ≠ [] := List.length_pos_iff.mp (by omega)
    have e := (List.dropLast_concat_getLast hne).symm
    have ih := subs_lens n l.dropLast (by rw [List.length_dropLast]; omega)
    rw [e, subs_snoc, List.map_append, List.map_map]
    show _ = lens n ++ (lens n).map (· + 1)
    rw [← ih, List.map_map]
    congr 1
    exact List.map_congr_left fun s _ => by simp
theorem crd_bound {M : List (List Nat)} {l : List Nat} {b : Nat} (nd : M.Nodup) (h : ∀ t ∈ M, t.Sublist l ∧ t.length ≤ b) : (crd M).length ≤ (((lens l.length).filter fun k => decide (k ≤ b)).map pz).sum := by
  rw [crd_len]
  have s := sum_sub (f := fun s => pz s.length) (L := (subs l).filter fun s => decide (s.length ≤ b)) nd fun x hx => List.mem_filter.mpr ⟨mem_subs.mpr (h x hx).1, decide_eq_true (h x hx).2⟩
  have e : (((subs l).filter fun s => decide (s.length ≤ b)).map fun s => pz s.length) = ((((subs l).map List.length).filter fun k => decide (k ≤ b)).map pz) := by
    rw [List.filter_map, List.map_map]
    rfl
  rw [e, subs_lens _ l rfl] at s
  exact s
theorem six_ok {n : Nat} (h : n ≤ 6) : (((lens n).filter fun k => decide (k ≤ 6)).map pz).sum ≤ 800 := by
  have h : n = 0 ∨ n = 1 ∨ n = 2 ∨ n = 3 ∨ n = 4 ∨ n = 5 ∨ n = 6 := by omega
  rcases h with rfl | rfl | rfl | rfl | rfl | rfl | rfl <;> decide +kernel
theorem two_ok {n : Nat} (h : n ≤ 10) : (((lens n).filter fun k => decide (k ≤ 2)).map pz).sum ≤ 800 := by
  have h : n = 0 ∨ n = 1 ∨ n = 2 ∨ n = 3 ∨ n = 4 ∨ n = 5 ∨ n = 6 ∨ n = 7 ∨ n = 8 ∨ n = 9 ∨ n = 10 := by omega
  rcases h with rfl | rfl | rfl | rfl | rfl | rfl | rfl | rfl | rfl | rfl | rfl <;> decide +kernel
theorem meet_two {F M : List (List Nat)} (hF : ∀ f ∈ F, Lt f) (h2 : F.length ≤ 2) (hM : IsMin (MeetAll F) M) : ∀ t ∈ M, t.length ≤ 2 := fun t ht => by
  have small : ∀ w : List Nat, w.length ≤ 2 → Lt w → (∀ x ∈ w, x ∈ t) → (∀ f ∈ F, ∃ x ∈ w, x ∈ f) → t.length ≤ 2 := fun w w1 w2 w3 w4 => by
    have p : part (az w) t = true := part_iff.mpr fun x hx => w3 x ((mem_az w2).mp hx)
    have q := ((hM.2.2 t).mp ht).2.2 (az w) (az_az w) (fun f hf => by
      obtain ⟨x, h1, h2⟩ := w4 f hf
      exact meets_iff.mpr ⟨x, (mem_az w2).mpr h1, h2⟩) p
    have e := part_anti (hM.az ht) (az_az w) q p
    have := az_card w2
    rw [e]
    omega
  have hm := hM.is ht
  match F, h2, hF, hm with
  | [], _, _, _ => exact small [] (by simp) (fun _ h => by cases h) (fun _ h => by cases h) fun _ h => by cases h
  | [A], _, hF, hm =>
    obtain ⟨x, h1, h2⟩ := meets_iff.mp (hm A (by simp))
    refine small [x] (by simp) (fun y hy => ?_) (fun y hy => ?_) fun f hf => ?_
    · rw [List.mem_singleton] at hy; rw [hy]; exact hF A (by simp) x h2
    · rw [List.mem_singleton] at hy; rw [hy]; exact h1
    · rw [List.mem_singleton] at hf; rw [hf]; exact ⟨x, by simp, h2⟩
  | [A, B], _, hF, hm =>
    obtain ⟨x, h1, h2⟩ := meets_iff.mp (hm A (by simp))
    obtain ⟨y, g1, g2⟩ := meets_iff.mp (hm B (by simp))
    refine small [x, y] (by simp) (fun z hz => ?_) (fun z hz => ?_) fun f hf => ?_
    · rcases List.mem_cons.mp hz with rfl | hz
      · exact hF A (by simp) z h2
      · rw [List.mem_singleton] at hz; rw [hz]; exact hF B (by simp) y g2
    · rcases List.mem_cons.mp hz with rfl | hz
      · exact h1
      · rw [List.mem_singleton] at hz; rw [hz]; exact g1
    · rcases List.mem_cons.mp hf with rfl | hf
      · exact ⟨x, by simp, h2⟩
      · rw [List.mem_singleton] at hf; rw [hf]; exact ⟨y, by simp, g2⟩
  | _ :: _ :: _ :: _, h2, _, _ => simp at h2
theorem crd_six {F M : List (List Nat)} {l : List Nat} (h : az l = l) (h6 : l.length ≤ 6) (hM : IsMin (MeetAll F) M) (hs : ∀ t ∈ M, SoN l t) : (crd M).length ≤ 800 := by
  refine Nat.le_trans (crd_bound (l := l) (b := 6) hM.2.1 fun t ht => ?_) (six_ok h6)
  have s : t.Sublist l := by have := (hs t ht).sub; rwa [h] at this
  exact ⟨s, Nat.le_trans s.length_le h6⟩
theorem crd_two {F M : List (List Nat)} {l : List Nat} (h : az l = l) (h10 : l.length ≤ 10) (hF : ∀ f ∈ F, Lt f) (h2 : F.length ≤ 2) (hM : IsMin (MeetAll F) M) (hs : ∀ t ∈ M, SoN l t) : (crd M).length ≤ 800 := by
  refine Nat.le_trans (crd_bound (l := l) (b := 2) hM.2.1 fun t ht => ?_) (two_ok h10)
  exact ⟨by have := (hs t ht).sub; rwa [h] at this, meet_two hF h2 hM t ht⟩
end NL

/-! a text's sign that keeps its token: `[f(a, b.replace(c, "")) for c in b]`, once a token is out -/
namespace NL
open PySem PySem.Spec L2
open PyProof.Rows hiding St
section
variable {X : Cx} {pins : List (Addr × Obj)} {σ : L2.St} {H : Hp} {s : Shared}
/-- the name at i holds just u -/
def RawAt (X : Cx) (y : Str) (u : Value) (s : Shared) : Prop := ∃ m, s.heap.Ns X.env.locals m ∧ m y = some u
theorem raw_load {y : Str} {u : Value} {A : Around} {Q E : Value → Shared → Prop} {pos : Pos} (hk : X.env.scope.kind = .function) (hl : X.env.kindOf y = some .local) (r : RawAt X y u s) (q : Q u s) (hd : (y == ("__debug__" : Str)) = false := by decide) :
    wpAny (model X.prog X.w) A (eval (.Name y pos) X.env) Q E s := by
  obtain ⟨m, hn, e⟩ := r
  exact wpAny_Name (wpAny_loadName_local hk hl hn e q) hd
/-- the store, and what the name holds then -/
theorem raw_store {M : Model} {A : Around} {E : Value → Shared → Prop} {i : Nat} {y : Str} {v : V} {u : Value} {Q : Unit → Shared → Prop} (I : Inv X pins σ H s) (nd : X.N.Nodup) (hi : X.N[i]? = some y) (hk : X.env.scope.names.lookup y = some .local) (r : RelV v u)
    (h : ∀ z, Inv X pins (σ.set i (some v)) H z → RawAt X y u z → z.toks = s.toks + 1 → Q () z) : wpAny M A (storeName X.env y u) Q E s := by
  obtain ⟨m, hn, hl⟩ := id I.loc
  have ncl : (X.env.scope.kind == .class || (X.env.scope.kind == .module && X.env.locals != X.env.globals)) = false := by rw [I.ok.kind]; rfl
  have lti : i < σ.length := by rw [I.len]; exact (List.getElem?_eq_some_iff.mp hi).1
  have nec := I.cne
  refine wpAny_storeName_local hk hn (fun h1 hn1 sb => ?_) ncl
  obtain ⟨oL, _, _, hoL, _⟩ := id hn
  have other : ∀ b o, X.s_0.heap.get? b = some o → h1.get? b = s.heap.get? b := fun b o e => sb.2 b (Nat.ne_of_lt (Nat.lt_of_lt_of_le (Heap.lt_size e) I.ok.above))
  refine h _ ⟨I.ok, I.os, I.bare, ⟨fun b o e n hb hx => (other b o e).trans (I.base.keep b o e n hb hx), fun b o e n hb hx => ?_, I.base.free, fun b o e hx => ?_, I.base.tups, I.base.frzs, I.base.tbls⟩, ⟨_, hn1, fun j z v1 e1 e2 e3 => ?_⟩, fun z c e => ?_, I.free, I.freeC, fun p hp => ?_, fun b ob e => ?_, by simpa using I.len⟩ ⟨_, hn1, by simp⟩ rfl
  · obtain ⟨sl, e1⟩ := I.base.slot b o e n hb hx
    exact ⟨sl, (other b o e).trans e1⟩
  · obtain ⟨o1, e1⟩ := I.base.there b o e hx
    exact ⟨o1, (other b o e).trans e1⟩
  · by_cases hj : j = i
    · subst hj
      rw [hi] at e1; cases e1
      rw [List.getElem?_set_self lti] at e2
      cases e2
      exact ⟨u, r, .inl ⟨hk, by simp⟩⟩
    · rw [List.getElem?_set_ne (Ne.symm hj)] at e2
      obtain ⟨u1, r1, q⟩ := hl j z v1 e1 e2 e3
      refine ⟨u1, r1, ?_⟩
      rcases q with ⟨k, e⟩ | ⟨k, c, e, zz⟩
      · have ne : z ≠ y := fun e => hj (nodup_ix nd e1 (e ▸ hi))
        exact .inl ⟨k, by simp [ne, e]⟩
      · exact .inr ⟨k, c, e, zz.sameBut sb (nec z c e)⟩
  · obtain ⟨w1, zz⟩ := I.cell z c e
    exact ⟨w1, zz.sameBut sb (nec z c e)⟩
  · obtain ⟨e, n, ne, nf, d⟩ := I.pin p hp
    exact ⟨(sb.2 p.1 ne).trans e, n, ne, nf, d⟩
  · refine (I.hok b ob e).stay (fun c w1 hc q => (sb.2 c ?_).trans q) (fun _ q => q) fun _ _ q => q
    rintro rfl
    rcases hc with rfl | hc
    · rw [I.free] at e; cases e
    · rw [I.free] at hc; cases hc
/-- the next sign of a text -/
theorem raw_item {tg : Expr} {it : Addr} {x : Str} {t : Tok} {ty : String} {i c : Nat} {E : Value → Shared → Prop} (hty : ty = "str_ascii_iterator" ∨ ty = "str_iterator") (I : Inv X pins σ H s) (hf : FpOk X pins H it) (st : s.heap.IsStrIter it ty x t i) (hx : x.cps[i]? = some c) :
    wpAny (model X.prog X.w) X.A (pyNext (.ref it)) (fun r s1 => r = some (.str ⟨#[c]⟩ s.toks) ∧ wpAny (model X.prog X.w) X.A (letOwnedTupleGo tg (.ref it) (.str ⟨#[c]⟩ s.toks)) (fun _ s2 => Inv X pins σ H s2 ∧ s2.heap.IsStrIter it ty x t (i + 1) ∧ s2.toks = s.toks + 1) E s1) E s := by
  obtain ⟨f0, f1, f2, f3, f4, f5⟩ := hf
  rcases hty with rfl | rfl
  · refine wpAny_pyNext_ascii_item st hx fun h1 st1 sb => ⟨rfl, ?_⟩
    obtain ⟨oi, e, cc, dd⟩ := id st1
    exact go_of (s := { s with heap := h1, toks := s.toks + 1 }) e cc dd (by decide) ⟨I.turned (fun b o hb e => sb.extBut b o hb e) f0 f1 f3 f4 f5, st1, rfl⟩
  · refine wpAny_pyNext_wide_item st hx fun h1 st1 sb => ⟨rfl, ?_⟩
    obtain ⟨oi, e, cc, dd⟩ := id st1
    exact go_of (s := { s with heap := h1, toks := s.toks + 1 }) e cc dd (by decide) ⟨I.turned (fun b o hb e => sb.extBut b o hb e) f0 f1 f3 f4 f5, st1, rfl⟩
end
section
variable {X : Cx} {E : XK}
/-- an element whose name y holds the sign c, its token known -/
def RawE (X : Cx) (y : Str) (i : Nat) (elt : Expr) (te : TE) : Prop := ∀ (pins : List (Addr × Obj)) (s : Shared) (σ : L2.St) (H : Hp) (Q : VK) (c : Nat) (tk : Tok), Inv X pins σ H s → RawAt X y (.str ⟨#[c]⟩ tk) s → tk ≠ 0 → tk < s.toks →
  σ[i]? = some (some (.str ⟨#[c]⟩)) → te σ H Q → wpAny (model X.prog X.w) X.A (eval elt X.env) (EP X pins σ Q) X.xe s
def tCallR (sp : Sp) (E : XK) (z : Str) (i0 i1 i2 : Nat) : TE := fun σ H Q => ∃ v0 b c, σ[i0]? = some (some v0) ∧ σ[i1]? = some (some (.str b)) ∧ σ[i2]? = some (some (.str c)) ∧ b.length + (b.length + 1) * z.length ≤ 16777216 ∧ (c == z) = false ∧ sp ([v0, .str (Txt.replace b c z)] ++ []) H Q E
theorem raw_call {k : Nat} {f : Addr} {fd : FuncData} {ps : List Str} {sp : Sp} {CX : CXT} {x x0 x1 x2 z : Str} {i0 i1 i2 j0 : Nat} {p p0 p1 p2 p3 p4 p5 pos : Pos} (F : FnOk X.prog X.w X.K X.mg X.base CX k f fd ps sp) (hr : Room k X.A) (hx : Passes CX X E) (hg : Gl X x) (hm : X.mg x = some (.ref f)) (hk : PySem.W.keepIn X.K (.ref f) = true) (hb : Binds X.K fd ps [])
    (h0 : X.N[i0]? = some x0) (v0 : Vis X.env.scope x0) (h1 : X.N[i1]? = some x1) (v1 : Vis X.env.scope x1) (kl : X.env.kindOf x2 = some .local)
    (hdb : (x == ("__debug__" : Str)) = false := by decide) (hd0 : (x0 == ("__debug__" : Str)) = false := by decide) (hc0 : (x0 == ("__classdict__" : Str)) = false := by decide) (hd1 : (x1 == ("__debug__" : Str)) = false := by decide) (hc1 : (x1 == ("__classdict__" : Str)) = false := by decide) (hd2 : (x2 == ("__debug__" : Str)) = false := by decide)
    (he : starEach [.Name x0 p0, .Call (.Attribute (.Name x1 p1) "replace" p3) [.Name x2 p2, .Constant (.str z) j0 p4] [] p5] X.env = [(false, eval (.Name x0 p0) X.env), (false, eval (.Call (.Attribute (.Name x1 p1) "replace" p3) [.Name x2 p2, .Constant (.str z) j0 p4] [] p5) X.env)] := by rfl)
    (hst : starEach [.Name x2 p2, .Constant (.str z) j0 p4] X.env = [(false, eval (.Name x2 p2) X.env), (false, eval (.Constant (.str z) j0 p4) X.env)] := by rfl)
    (hbase : attributeBase (.Name x1 p1) "replace" X.env (eval (.Name x1 p1) X.env) = eval (.Name x1 p1) X.env := by rfl) (hline : (p3.endLine == p5.line) = true := by rfl) :
    RawE X x2 i2 (.Call (.Name x p) [.Name x0 p0, .Call (.Attribute (.Name x1 p1) "replace" p3) [.Name x2 p2, .Constant (.str z) j0 p4] [] p5] [] pos) (tCallR sp E z i0 i1 i2) := by
  intro pins s σ H Q c tk I r t0 t1 hσ hq
  obtain ⟨w0, b, c', e0, e1, e2, hz, hcz, q⟩ := hq
  rw [hσ] at e2
  cases e2
  refine wpAny_Call_Name_kw (ld_glob I hg hm ?_ hdb)
  refine PySem.W.callWith_K (h₀ := X.base) I.ok.mod.kin hk ?_ (by rw [he]; rfl) (by rfl)
  rw [he]
  refine Calls.spliced_cons (raw_name h0 v0 I e0 (fun u0 r0 => ?_) hd0 hc0)
  refine Calls.spliced_cons (PySem.Call_method2 hbase hst hline (raw_name h1 v1 I e1 (fun u1 r1 => ?_) hd1 hc1))
  obtain ⟨t', rfl⟩ := r1
  refine ⟨"str", _, PySem.F.plainAttrs_str, PySem.F.slot_str_replace, PySem.F.type_str_replace, typeIs_str _ _ _, (fun _ e => nomatch e), Calls.callWith_builtin rfl (Calls.evalArgs_plain (Calls.spliced_cons ?_))⟩
  refine raw_load I.ok.kind kl r ?_ hd2
  refine Calls.spliced_cons (Calls.Constant_str ?_)
  refine Calls.spliced_nil ?_
  refine PySem.SC.replace t0 (Nat.ne_of_gt (Nat.lt_of_le_of_lt (Nat.zero_le _) t1)) (Nat.ne_of_lt t1) hcz hz fun t2 n2 => ?_
  refine Calls.spliced_nil ⟨(I.tok n2).kIn, ?_⟩
  exact run_fn F hr hb .nil hx (I.tok n2) (.cons r0 (.cons (a := V.str (Txt.replace b ⟨#[c]⟩ z)) ⟨t2, rfl⟩ .nil)) q
theorem thnFT {α : Type} {t : Sem α} {Q Q' : α → Shared → Prop} {M : Model} {A : Around} {E : Value → Shared → Prop} {s : Shared} (h : wpAny M A t Q (fun _ _ => False) s) (k : 1 ≤ s.toks) (hQ : ∀ a z, 1 ≤ z.toks → Q a z → Q' a z) : wpAny M A t Q' E s :=
  wpAny_mono (wpAny_toks_of k h) (fun a z x => hQ a z x.1 x.2) fun _ _ x => x.2.elim
/-- over the text at i1 -/
def iTxt (i1 : Nat) : TI := fun σ H R => ∃ x, σ[i1]? = some (some (.str x)) ∧ R (Its x) H
theorem lcR_core {pins : List (Addr × Obj)} {s : Shared} {σ : L2.St} {H : Hp} {Q : VK} {elt : Expr} {scope : Scope} {own : List (Str × Nat)} {pos pos' py p1 : Pos} {te : TE} {use : Option (Value → Sem Unit)} {Qf : Value → Shared → Prop} {y x1 : Str} {i i1 : Nat}
    (t0 : 1 ≤ s.toks) (hc : X.calm = true) (nd : X.N.Nodup) (I : Inv X pins σ H s) (ok : BlkOk X.N X.env.scope scope own) (hi : X.N[i]? = some y) (h1 : X.N[i1]? = some x1) (v1 : Vis X.env.scope x1)
    (hy : ∀ (s : Shared) (H : Hp) (C : Addr) (cl : List (Str × Addr)) (fp : List Addr), (X.blk s H scope (compEnvC scope cl C X.env) fp).env.scope.names.lookup y = some .local)
    (he : ∀ (s : Shared) (H : Hp) (C : Addr) (cl : List (Str × Addr)) (fp : List Addr), RawE (X.blk s H scope (compEnvC scope cl C X.env) fp) y i elt te) (hs : ∀ x, foldedSetIterable (.Name x1 p1) X.env x = pure x)
    (h : tLc (iTxt i1) (gName i) tYes te (own.map (·.2)) σ H Q)
    (fin : ∀ D C z m H', Inv X pins σ H' z → Q (.ref D) H' → z.heap.Ns C m → FpOk X pins H' C → compPost (model X.prog X.w) X.A X.xe use Qf (.ref D) C (.ok .next) z)
    (hd1 : (x1 == ("__debug__" : Str)) = false := by decide) (hc1 : (x1 == ("__classdict__" : Str)) = false := by decide) :
    wpAny (model X.prog X.w) X.A (comprehension (.ListComp elt [⟨.Name y py, .Name x1 p1, [], 0⟩] scope pos) scope X.env pos' (newList []) false (eval (.Name x1 p1) X.env) use) Qf X.xe s := by
  obtain ⟨x, ex, q⟩ := h
  have caught : ∀ a ∈ scope.names, a.2 = .free → ∃ c, X.env.cells.lookup a.1 = some c := fun a ha e => by
    rcases ok.free a ha e with k | k
    · exact I.ok.has _ (.inl k)
    · exact I.ok.has _ (.inr k)
  refine wpAny_comprehension_free (use := use) rfl hs (closure_ok caught) ok.kind (fun a ha e => by rw [ok.uniq a ha, e]) (raw_name h1 v1 I ex (fun u1 r1 => ?_) hd1 hc1)
  obtain ⟨tx1, rfl⟩ := r1
  suffices body : ∀ (ty : String) (o : Obj), (ty = "str_ascii_iterator" ∨ ty = "str_iterator") → (s.heap.push o).IsStrIter s.heap.objs.size ty x tx1 0 → wpAny (model X.prog X.w) X.A (newList []) (fun acc a3 =>
      wpAny (model X.prog X.w) X.A (newFunctionEnv scope X.env.globals (cloFrom X.env.cells scope.names []) [] X.env.qual none Value.none (some X.env)) (fun cenv a4 =>
        codeAny (model X.prog X.w) X.A (Code.compStart (elt.ListComp [⟨.Name y py, .Name x1 p1, [], 0⟩] scope pos) 0 (.ref s.heap.objs.size) acc { scope := relabel scope X.env, locals := cenv.locals, globals := cenv.globals, cells := cenv.cells, qual := cenv.qual, func := cenv.func, code := cenv.code, frame := cenv.frame, builtins := cenv.builtins })
          (compPost (model X.prog X.w) X.A X.xe use Qf acc cenv.locals) a4) X.xe a3) X.xe { s with heap := s.heap.push o } by
    cases ha : x.cps.all (· < 128)
    · exact wpAny_pyIter_wide ha (body _ _ (.inr rfl) ⟨_, Heap.get?_push_size _ rfl, rfl, rfl⟩)
    · exact wpAny_pyIter_ascii ha (body _ _ (.inl rfl) ⟨_, Heap.get?_push_size _ rfl, rfl, rfl⟩)
  intro ty o hty st0
  have itOk : FpOk X pins H s.heap.objs.size := I.fpOk (Nat.le_refl _) (I.hok.fresh (Nat.le_refl _))
  have Ia : Inv X pins σ H { s with heap := s.heap.push o } := I.kept (t' := s.toks) fun b ob e => Heap.get?_push_of_some _ e
  generalize hit : s.heap.objs.size = it at st0 itOk ⊢
  generalize hsa : ({ s with heap := s.heap.push o } : Shared) = sa at Ia ⊢
  have sta : sa.heap.IsStrIter it ty x tx1 0 := by rw [← hsa]; exact st0
  have tka : sa.toks = s.toks := by rw [← hsa]
  have ita : it < sa.heap.objs.size := by
    rw [← hsa, ← hit]
    show _ < (s.heap.push o).objs.size
    rw [Heap.size_push]
    exact Nat.lt_succ_self _
  refine wpAny_newObj_type (newEnv_comp ?_) (by show 0 ≤ sizeLine; decide)
  generalize hDa : sa.heap.objs.size = Da
  have nD : H Da = none := Ia.hok.fresh (Nat.le_of_eq hDa)
  obtain ⟨W, ⟨m0, w0⟩, turn⟩ := q Da nD
  generalize hsb : ({ sa with heap := sa.heap.push { cls := .type "list", data := .seq ([] : List Value).toArray } } : Shared) = sb
  have Ib : Inv X pins σ (upd H Da (.lst [])) sb := by
    rw [← hsb]
    refine Ia.laid (t' := sa.toks) (fun b ob e => Heap.get?_push_of_some _ e) (Nat.le_of_eq hDa) ⟨Nat.zero_le _, [], 0, .nil, ?_⟩
    rw [← hDa]
    exact Heap.get?_push_size _ rfl
  have hb : sb.heap = sa.heap.push { cls := .type "list", data := .seq ([] : List Value).toArray } := by rw [← hsb]
  have tkb : sb.toks = s.toks := by rw [← hsb]; exact tka
  have fpb : FpOk X pins (upd H Da (.lst [])) it := ⟨by rw [upd_ne (by rw [← hDa]; exact Nat.ne_of_lt ita)]; exact itOk.1, itOk.2⟩
  have itb : it < sb.heap.objs.size := by rw [hb, Heap.size_push]; exact Nat.lt_succ_of_lt ita
  have stb : sb.heap.IsStrIter it ty x tx1 0 := by
    obtain ⟨ob, e, r⟩ := sta
    exact ⟨ob, by rw [hb]; exact Heap.get?_push_of_some _ e, r⟩
  have Ic := block_start (fp := [it]) Ib ok nd (fun b hb => by rw [List.mem_singleton] at hb; rw [hb]; exact ⟨fpb, itb⟩)
  have rawE := he sb (upd H Da (.lst [])) sb.heap.objs.size (cellsFrom (sb.heap.objs.size + 1) scope.names (cloFrom X.env.cells scope.names [])) [it]
  have loc := hy sb (upd H Da (.lst [])) sb.heap.objs.size (cellsFrom (sb.heap.objs.size + 1) scope.names (cloFrom X.env.cells scope.names [])) [it]
  show codeAny _ _ (.compStart (.ListComp elt [⟨.Name y py, .Name x1 p1, [], 0⟩] scope pos) 0 (.ref it) (.ref Da) (compEnvC scope (cellsFrom (sb.heap.objs.size + 1) scope.names (cloFrom X.env.cells scope.names [])) sb.heap.objs.size X.env)) (compPost (model X.prog X.w) X.A X.xe use Qf (.ref Da) sb.heap.objs.size) { sb with heap := pushCells (sb.heap.push { cls := .type "dict", data := .dict #[] }) scope.names }
  generalize hce : compEnvC scope (cellsFrom (sb.heap.objs.size + 1) scope.names (cloFrom X.env.cells scope.names [])) sb.heap.objs.size X.env = ce at Ic rawE loc ⊢
  have celoc : ce.locals = sb.heap.objs.size := by subst hce; rfl
  have nit0 := fpb.1
  generalize hHb : upd H Da (.lst []) = Hb at Ib Ic rawE loc w0 fpb nit0
  generalize hsc : ({ sb with heap := pushCells (sb.heap.push { cls := .type "dict", data := .dict #[] }) scope.names } : Shared) = sc at Ic ⊢
  have stc : sc.heap.IsStrIter it ty x tx1 0 := by
    obtain ⟨ob, e, r⟩ := stb
    exact ⟨ob, by rw [← hsc]; exact pushCells_keeps _ _ _ _ (Heap.get?_push_of_some _ e), r⟩
  have tkc : 1 ≤ sc.toks := by rw [← hsc]; show 1 ≤ sb.toks; rw [tkb]; exact t0
  have stat : ∀ {σ' : L2.St} {H' : Hp} {z : Shared}, Inv (X.blk sb Hb scope ce [it]) [] σ' H' z → H' it = none → FpOk (X.blk sb Hb scope ce [it]) [] H' it := fun {σ' H' z} I' hn =>
    ⟨hn, (I'.ok.exf it (List.mem_singleton.mpr rfl)).1, I'.ok.exfs it (List.mem_singleton.mpr rfl), .inl (List.mem_singleton.mpr rfl), fun a c e => (I'.ok.exf it (List.mem_singleton.mpr rfl)).2 a c e, fun p hp => absurd (show p ∈ ([] : List (Addr × Obj)) ++ [] from hp) (by simp)⟩
  have loop : codeAny (model X.prog X.w) X.A (.compLoop (.ListComp elt [⟨.Name y py, .Name x1 p1, [], 0⟩] scope pos) 0 (.ref it) (.ref Da) ce) (compPost (model X.prog X.w) X.A X.xe use Qf (.ref Da) sb.heap.objs.size) sc := by
    refine compLoop_any (fun n z => ∃ j H', Inv (X.blk sb Hb scope ce [it]) [] (wipe σ (own.map (·.2))) H' z ∧ z.heap.IsStrIter it ty x tx1 j ∧ H' it = none ∧ W j n H' ∧ 1 ≤ z.toks) ?_ m0 ⟨0, Hb, Ic, stc, nit0, w0, tkc⟩
    rintro n z5 ⟨j, H5, I5, st5, n5, w5, k5⟩
    rcases turn j n H5 w5 with ⟨stop, qq⟩ | ⟨gone, Nx, hNx, step⟩
    · have hx : x.cps[j]? = none := Array.getElem?_eq_none stop
      obtain ⟨f0, f1, f2, f3, f4, f5⟩ := stat I5 n5
      have away : ∀ h' : Heap, (∀ b ob, b ≠ it → z5.heap.get? b = some ob → h'.get? b = some ob) → compPost (model X.prog X.w) X.A X.xe use Qf (.ref Da) sb.heap.objs.size (.ok .next) { z5 with heap := h' } := fun h' eb => by
        have I6 : Inv (X.blk sb Hb scope ce [it]) [] (wipe σ (own.map (·.2))) H5 { z5 with heap := h' } := I5.turned (t' := z5.toks) eb f0 f1 f3 f4 f5
        have I7 : Inv X pins σ H5 { z5 with heap := h' } := Ib.call' (ch := [it]) I6.os I6.base I6.hok I6.bare fun b hb => by
          rw [List.mem_singleton] at hb
          rw [hb]
          exact ⟨fpb.2.2.2.1, fpb.2.1, fpb.2.2.2.2.1, fpb.2.2.2.2.2⟩
        have nC : H5 sb.heap.objs.size = none := by
          have zz : H5 ce.locals = none := I6.free
          rwa [celoc] at zz
        obtain ⟨m, hn, _⟩ := I6.loc
        have hn : ({ z5 with heap := h' } : Shared).heap.Ns ce.locals m := hn
        rw [celoc] at hn
        exact fin Da sb.heap.objs.size _ m H5 I7 qq hn (Ib.fpOk (Nat.le_refl _) nC)
      rcases hty with rfl | rfl
      · exact wpAny_pyNext_ascii_end (I5.ok.hd hc) st5 hx fun h' eb => away h' fun b ob hb e => eb b ob hb e
      · exact wpAny_pyNext_wide_end (I5.ok.hd hc) st5 hx fun h' eb => away h' fun b ob hb e => eb b ob hb e
    · have gone : j < x.cps.size := gone
      obtain ⟨c, hxc⟩ : ∃ c, x.cps[j]? = some c := ⟨_, Array.getElem?_eq_getElem gone⟩
      refine thnF (raw_item (X := X.blk sb Hb scope ce [it]) (tg := .Name y py) hty I5 (stat I5 n5) st5 hxc) fun r z6 ⟨hr, h6⟩ => ?_
      subst hr
      refine thnF h6 fun _ z7 ⟨I7, st7, k7⟩ => ?_
      have I7p := I7.pinned (fp := [it]) (fun b hb => by rw [List.mem_singleton] at hb; rw [hb]; exact stat I7 n5) (fun b hb => by
        rw [List.mem_singleton] at hb
        rw [hb]
        obtain ⟨ob, e, _, dd⟩ := st7
        exact ⟨ob, e, fun v zz => by rw [dd] at zz; cases zz⟩)
      have sem := step (.str ⟨#[c]⟩) H5 ⟨rfl, c, hxc, rfl⟩
      refine wpAny_assign_Name (raw_store (X := X.blk sb Hb scope ce [it]) (v := V.str ⟨#[c]⟩) I7p nd hi loc ⟨_, rfl⟩ fun z8 I8 raw8 k8 => ?_)
      obtain ⟨hw8, sem⟩ := sem
      refine wpAny_tests_nil ?_
      simp only [if_true]
      have sem : te ((wipe σ (own.map (·.2))).set i (some (.str ⟨#[c]⟩))) H5 _ := sem
      have lti : i < (wipe σ (own.map (·.2))).length := by rw [wipe_length, I.len]; exact (List.getElem?_eq_some_iff.mp hi).1
      refine thnFT (rawE _ z8 _ H5 _ c z5.toks I8 raw8 (Nat.ne_of_gt k5) (by rw [k8, k7]; exact Nat.lt_succ_of_lt (Nat.lt_succ_self _)) (List.getElem?_set_self lti) sem) (by rw [k8]; exact Nat.le_add_left 1 _) fun zv z10 k10 ⟨yv, H10, I10, r10, acc, hD10, hz10, nx⟩ => ?_
      refine wpAny_with_toks k10 (app_ok (X := X.blk sb Hb scope ce [it]) I10 hD10 hz10 r10 fun z11 I11 k11 => ?_)
      obtain ⟨m2, hm2, w2⟩ := hNx _ nx
      have hl2 : (wipe σ (own.map (·.2))).length = ((wipe σ (own.map (·.2))).set i (some (.str ⟨#[c]⟩))).length := by rw [List.length_set]
      obtain ⟨ob7, e7, cc7, dd7⟩ := id st7
      have pin7 := I11.pin (it, ob7) (List.mem_append_right _ (List.mem_append_right _ (mem_pinsAt (List.mem_singleton.mpr rfl) e7)))
      refine ⟨m2, hm2, j + 1, _, (I11.unpinned (pins := [])).weak hl2 (fun a v e => ?_), ⟨ob7, pin7.1, cc7, dd7⟩, pin7.2.1, w2, k11⟩
      rw [← hw8] at e
      exact (wipe_some e).1
  refine codeAny_compStart_list loop ?_
  rcases hty with rfl | rfl
  · exact wpAny_pyIter_striter_ascii stc loop
  · exact wpAny_pyIter_striter_wide stc loop
end
end NL

/-! the rules, once a token is out -/
namespace NL
open PySem PySem.Spec L2
open PyProof.Rows hiding St
section
variable {X : Cx} {E : XK}
theorem thnT1 {α : Type} {t : Sem α} {Q Q' : α → Shared → Prop} {M : Model} {A : Around} {E : Value → Shared → Prop} {s : Shared} (k : 1 ≤ s.toks) (h : wpAny M A t Q E s) (hQ : ∀ a z, 1 ≤ z.toks → Q a z → Q' a z) : wpAny M A t Q' E s :=
  wpAny_mono (wpAny_toks_of k h) (fun a z x => hQ a z x.1 x.2) fun _ _ x => x.2
theorem pet_lcR {elt : Expr} {scope : Scope} {own : List (Str × Nat)} {pos py p1 : Pos} {te : TE} {y x1 : Str} {i i1 : Nat} (hc : X.calm = true) (nd : X.N.Nodup) (ok : BlkOk X.N X.env.scope scope own) (hi : X.N[i]? = some y) (h1 : X.N[i1]? = some x1) (v1 : Vis X.env.scope x1)
    (hy : ∀ (s : Shared) (H : Hp) (C : Addr) (cl : List (Str × Addr)) (fp : List Addr), (X.blk s H scope (compEnvC scope cl C X.env) fp).env.scope.names.lookup y = some .local)
    (he : ∀ (s : Shared) (H : Hp) (C : Addr) (cl : List (Str × Addr)) (fp : List Addr), RawE (X.blk s H scope (compEnvC scope cl C X.env) fp) y i elt te) (hs : ∀ x, foldedSetIterable (.Name x1 p1) X.env x = pure x := by intro _; rfl)
    (hd1 : (x1 == ("__debug__" : Str)) = false := by decide) (hc1 : (x1 == ("__classdict__" : Str)) = false := by decide) :
    PET X (.ListComp elt [⟨.Name y py, .Name x1 p1, [], 0⟩] scope pos) (tLc (iTxt i1) (gName i) tYes te (own.map (·.2))) := by
  intro pins s σ H Q t0 I h
  rw [eval_ListComp]
  refine lcR_core t0 hc nd I ok hi h1 v1 hy he hs h (fun D C z m H' I' q hn f => ⟨m, hn, fun h2 sb => ?_⟩) hd1 hc1
  obtain ⟨f0, f1, f2, f3, f4, f5⟩ := f
  exact ⟨.ref D, H', I'.turned (t' := z.toks) (fun b ob hb e => (sb.2 b hb).trans e) f0 f1 f3 f4 f5, rfl, q⟩
def PTT (X : Cx) (e : Expr) (t : TT) : Prop := ∀ (pins : List (Addr × Obj)) (s : Shared) (σ : L2.St) (H : Hp) (Q : Bool → Hp → Prop), 1 ≤ s.toks → Inv X pins σ H s → t σ H Q → wpAny (model X.prog X.w) X.A (isTrue e X.env (eval e X.env)) (TP X pins σ Q) X.xe s
def PWT (X : Cx) (e : Expr) (t : TT) : Prop := ∀ (whole : Sem Value) (pins : List (Addr × Obj)) (s : Shared) (σ : L2.St) (H : Hp) (Q : Bool → Hp → Prop), 1 ≤ s.toks → Inv X pins σ H s → t σ H Q → wpAny (model X.prog X.w) X.A (isTrue e X.env whole) (TP X pins σ Q) X.xe s
theorem PWT.pt {e : Expr} {t : TT} (h : PWT X e t) : PTT X e t := h _
theorem ptt_truth {a : Expr} {ta : TE} (ha : PET X a ta) (he : ∀ whole, isTrue a X.env whole = (do let v ← whole; standAt a.pos; holding [v] (truthy v))) : PTT X a (fun σ H Q => ta σ H fun x H' => ∃ k, TruV X.K x H' k ∧ Q k H') := by
  intro pins s σ H Q t0 I h
  exact isTrue_plain (thn (ha pins s σ H _ t0 I h) fun v z ⟨x, H1, I1, r1, q1⟩ => tru_ok pins z σ H1 x v Q I1 r1 q1) (he _)
theorem pwt_or1 {a : Expr} {tA : TT} {pos : Pos} (ha : PTT X a tA) : PWT X (.BoolOp .Or [a] pos) tA := by
  intro wh pins s σ H Q t0 I h
  refine isTrue_or (thn (ha pins s σ H Q t0 I h) fun c z e => ?_)
  cases c with
  | false => exact isTrue_or_nil e
  | true => exact e
theorem pwt_or {a b : Expr} {rest : List Expr} {tA tB : TT} {pos : Pos} (ha : PT X a tA) (hb : PWT X (.BoolOp .Or (b :: rest) pos) tB) : PWT X (.BoolOp .Or (a :: b :: rest) pos) (tOr tA tB) := by
  intro wh pins s σ H Q t0 I h
  refine isTrue_or (thnT1 t0 (ha.run pins s σ H _ I h) fun c z k ⟨H1, I1, q1⟩ => ?_)
  cases c with
  | true => exact ⟨H1, I1, q1⟩
  | false => exact hb wh pins z σ H1 Q k I1 q1
theorem pet_callB {x : Str} {p pos : Pos} {e : Expr} {es : List Expr} {t : TA} {id : String} {r : List V → Hp → VK → Prop} (hc : CallR X (.builtin id) r) (hg : Gl X x) (hm : X.mg x = none) (hv : bootBuiltins x = some (.builtin id)) (ha : PAT X (e :: es) t) (hn : x ≠ "__name__" := by decide) (hdb : (x == ("__debug__" : Str)) = false := by decide)
    (he : starEach (e :: es) X.env = (false, eval e X.env) :: starEach es X.env := by rfl) (hpl : (backTo pos (starEach es X.env)).any (·.1) = false := by rfl) : PET X (.Call (.Name x p) (e :: es) [] pos) (tCB r t) := by
  intro pins s σ H Q t0 I h
  refine wpAny_Call_Name_kw (ld_blt I hg hm hv ?_ hn hdb)
  exact PyProof.Rows.callWith_builtin1 (thn (ha pos pins s σ H _ t0 I h) fun us z ⟨vs, H1, I1, r1, q1⟩ => hc pins z σ H1 vs us Q I1 r1 q1) he hpl
theorem pst_if {c : Expr} {a b : List Stmt} {tc : TT} {t u : TS} {pos : Pos} (hc : PTT X c tc) (ha : PSs X a t) (hb : PSs X b u) : PST X (.If c a b pos) (tIfS tc t u) := by
  intro pins s σ H D t0 I h
  refine wpAny_If (thn (hc pins s σ H _ t0 I h) fun d z ⟨H1, I1, q1⟩ => ?_)
  cases d with
  | true => exact ha.run pins z σ H1 D I1 q1
  | false => exact hb.run pins z σ H1 D I1 q1
theorem psst_one {st : Stmt} {t : TS} (h1 : PST X st t) : PSsT X [st] t := by
  intro pins s σ H D t0 I h
  refine wpAny_execs_cons (thn (h1 pins s σ H D t0 I h) fun f z q => ?_)
  cases f with
  | next => exact wpAny_execs_nil q
  | ret v => exact q
  | brk => exact q
  | cont => exact q
theorem pst_forT {tg iter : Expr} {body : List Stmt} {wi : TI} {g : TG} {tb : TS} {pos : Pos} (hp : PassesOwn (model X.prog X.w) X.A X.env X.xe) (hc : X.calm = true) (hi : PI X tg iter wi) (hg : PG X tg g) (hb : PSsT X body tb)
    (hs : ∀ x, foldedSetIterable iter X.env x = pure x := by intro _; rfl) : PST X (.For tg iter body [] pos) (tFor wi g tb) := by
  intro pins s σ H D t0 I h
  refine wpAny_For (thnT1 t0 (hi.run pins s σ H _ I h) fun v a1 k1 h1 => thnT1 k1 h1 fun itv a2 k2 h2 => ?_) hs
  obtain ⟨it, fp, tn, J, Ha, e, Ia, T, sta, fa, W, ⟨m0, w0⟩, turn⟩ := h2
  subst e
  have stat : ∀ {H' : Hp}, (∀ b ∈ fp, H' b = none) → ∀ b ∈ fp, FpOk X pins H' b := fun hn b hb => ⟨hn b hb, (fa b hb).2⟩
  refine codeAny_forLoop_any (fun n z => ∃ i σ' H', Inv X pins σ' H' z ∧ tn i z.heap ∧ (∀ b ∈ fp, H' b = none) ∧ W i n σ' H' ∧ 1 ≤ z.toks) ?_ m0 ⟨0, σ, Ha, Ia, sta, fun b hb => (fa b hb).1, w0, k2⟩
  rintro n z3 ⟨i, σ3, Hc, Ic, stc, frc, wc, kc⟩
  rcases turn i n σ3 Hc wc with ⟨stop, qn⟩ | ⟨go, N, hN, step⟩
  · refine wpAny_passesOwn hp (thn (T.done X rfl rfl rfl hc i pins z3 σ3 Hc X.xe Ic (stat frc) stc stop) fun r z4 ⟨hr, I4⟩ => ?_)
    subst hr
    exact wpAny_execs_nil ⟨σ3, Hc, I4, qn⟩
  · refine wpAny_passesOwn hp (thnT1 kc (T.item X rfl rfl rfl hc i pins z3 σ3 Hc X.xe Ic (stat frc) stc go) fun r z4 k4 ⟨u, hr, h4⟩ => ?_)
    subst hr
    refine wpAny_passesOwn hp (thnT1 k4 h4 fun _ z5 k5 ⟨x, He, Ie, re, ye, ste, fre⟩ => ?_)
    have Ip := Ie.pinned (stat fre) (T.obj _ _ ste)
    refine wpAny_passesOwn hp (thnT1 k5 (hg.run _ z5 σ3 He x u _ Ip re (step x He ye)) fun _ z6 k6 ⟨σ6, Hf, If, qf⟩ => ?_)
    refine wpAny_passesOwn hp (thnT1 k6 (hb _ z6 σ6 Hf _ k6 If qf) fun f z7 k7 q7 => ?_)
    have again : ∀ {σ7 : L2.St} {H7 : Hp}, Inv X (pins ++ pinsAt fp z5.heap) σ7 H7 z7 → N σ7 H7 → ∃ m, m < n ∧ ∃ i σ' H', Inv X pins σ' H' z7 ∧ tn i z7.heap ∧ (∀ b ∈ fp, H' b = none) ∧ W i m σ' H' ∧ 1 ≤ z7.toks := fun {σ7 H7} I7 n7 => by
      obtain ⟨m', hm, w7⟩ := hN σ7 H7 n7
      have kept : ∀ b ∈ fp, ∀ o, z5.heap.get? b = some o → z7.heap.get? b = some o ∧ H7 b = none := fun b hb o e =>
        let z := I7.pin (b, o) (List.mem_append_right _ (List.mem_append_right _ (mem_pinsAt hb e)))
        ⟨z.1, z.2.1⟩
      refine ⟨m', hm, i + 1, σ7, H7, I7.unpinned, T.keep _ _ _ ste fun b hb o e => (kept b hb o e).1, fun b hb => ?_, w7, k7⟩
      obtain ⟨o, e, _⟩ := T.obj _ _ ste b hb
      exact (kept b hb o e).2
    cases f with
    | next =>
      obtain ⟨σ7, H7, I7, n7⟩ := q7
      exact again I7 n7
    | cont =>
      obtain ⟨σ7, H7, I7, n7⟩ := q7
      exact again I7 n7
    | brk =>
      obtain ⟨σ7, H7, I7, q7⟩ := q7
      exact ⟨σ7, H7, I7.unpinned, q7⟩
    | ret v =>
      obtain ⟨x7, σ7, H7, I7, r7, q7⟩ := q7
      exact ⟨x7, σ7, H7, I7.unpinned, r7, q7⟩
end
end NL

/-! a def's body, where its first parameter is a plain local: a token is out -/
namespace NL
open PySem PySem.Spec L2
open PyProof.Rows hiding St
section
variable {M : Model} {A : Around} {E : Value → Shared → Prop} {s₀ s : Shared} {m cm : Str → Option Value} {env : Env}
theorem stT {n : Str} {v : Value} {Q : Unit → Shared → Prop} (x : InCallC s₀ env.locals m env.cells cm s) (hk : env.scope.kind = .function) (hl : env.kindOf n = some .local)
    (h : ∀ z, InCallC s₀ env.locals (fun y => if y = n then some v else m y) env.cells cm z → 1 ≤ z.toks → Q () z) : wpAny M A (storeName env n v) Q E s := by
  refine wpAny_storeName_local hl x.toInCall.ns (fun h1 hn1 sb => h _ ⟨⟨?_, hn1, fun b o e => ?_, x.toInCall.fresh⟩, fun k c hc => ?_, x.apart, x.above⟩ (Nat.le_add_left 1 _)) (by rw [hk]; rfl)
  · obtain ⟨h2, tk, rfl⟩ := x.toInCall.same
    exact ⟨h1, _, rfl⟩
  · exact sb.extBut b o (Nat.ne_of_lt (Nat.lt_of_lt_of_le (Heap.lt_size e) x.toInCall.fresh)) (x.toInCall.keep b o e)
  · exact (x.cell k c hc).sameBut sb (Nat.ne_of_gt (x.above k c (mem_of_lookup hc)))
theorem bindT (f : Str × Value → PUnit → Sem (ForInStep PUnit)) (hf : ∀ n v u, f (n, v) u = (do storeName env n v; pure (.yield ⟨⟩))) (hk : env.scope.kind = .function) {n : Str} {v : Value} {r : List (Str × Value)} {Q : PUnit → Shared → Prop}
    (x : InCallC s₀ env.locals m env.cells cm s) (hl : env.kindOf n = some .local) (hr : ∀ y ∈ r, env.kindOf y.1 = some .local ∨ (env.kindOf y.1 = some .cell ∧ (env.cells.lookup y.1).isSome = true))
    (h : ∀ z, InCallC s₀ env.locals (bindL env.kindOf ((n, v) :: r) m) env.cells (bindC env.kindOf ((n, v) :: r) cm) z → 1 ≤ z.toks → Q ⟨⟩ z) : wpAny M A (forIn ((n, v) :: r) ⟨⟩ f) Q E s := by
  rw [List.forIn_cons, hf]
  refine wpAny_bind (wpAny_bind (stT x hk hl fun z xz kz => wpAny_pure (wpAny_with_toks kz (wpAny_bindParams f hf hk r _ _ z _ xz hr fun w xw kw => h w ?_ kw))))
  unfold bindL bindC
  rw [if_pos hl, if_pos hl]
  exact xw
theorem newEnvT {scope : Scope} {globals : Addr} {n : Str} {v : Value} {r : List (Str × Value)} {qual : Str} {func : Option Addr} {code : Value} {builtins : Addr} {Q : Env → Shared → Prop} (hk : scope.kind = .function) (hl : scope.names.lookup n = some .local)
    (hkind : ∀ x ∈ r, scope.names.lookup x.1 = some .local ∨ (scope.names.lookup x.1 = some .cell ∧ ((cellsFrom (s.heap.objs.size + 1) scope.names []).lookup x.1).isSome = true))
    (hQ : ∀ env, env = newEnv scope s.heap.objs.size globals (cellsFrom (s.heap.objs.size + 1) scope.names []) qual func code none builtins →
      ∀ z, InCallC s env.locals (bindL env.kindOf ((n, v) :: r) fun _ => none) env.cells (bindC env.kindOf ((n, v) :: r) fun _ => none) z → 1 ≤ z.toks → Q env z) :
    wpAny M A (newFunctionEnv scope globals [] ((n, v) :: r) qual func code none builtins) Q E s := by
  simp only [newFunctionEnv, Option.isSome_none, Bool.false_eq_true, if_false]
  refine wpAny_bind (wpAny_alloc ?_)
  refine wpAny_bind (wpAny_layCells _ (fun nm kd cs => by cases h1 : kd == NameKind.cell <;> simp [h1]) _ _ _ _ ?_)
  have ok := cellsFrom_ok scope.names (s.heap.push { cls := .type "frame", data := .dict #[] }) (s.heap.objs.size + 1) [] ⟨fun _ _ z => (nomatch z), List.Pairwise.nil⟩ (by rw [Heap.size_push]; exact Nat.le_refl _)
  rw [Heap.size_push] at ok
  rw [show ({ s with heap := s.heap.push { cls := .type "frame", data := .dict #[] } } : Shared).heap.objs.size = s.heap.objs.size + 1 from Heap.size_push ..]
  refine wpAny_bind (bindT (s₀ := s) (env := newEnv scope s.heap.objs.size globals (cellsFrom (s.heap.objs.size + 1) scope.names []) qual func code none builtins) (m := fun _ => none) (cm := fun _ => none) _ (fun _ _ _ => rfl) hk
    ⟨⟨⟨_, _, rfl⟩, (Heap.Ns.new s.heap (.type "frame")).keeps (pushCells_keeps _ _), fun b o e => pushCells_keeps _ _ b o (Heap.get?_push_of_some _ e), Nat.le_refl _⟩, fun k c hc => (ok.empty k c (mem_of_lookup hc)).1, ok.apart, fun k c z => (ok.empty k c z).2⟩ hl hkind fun z xz kz => wpAny_pure (hQ _ rfl z xz kz))
end
theorem fn_ofT2 {CX : CXT} {P : Program} {w : World} {K : PySem.W.Frag} {mg : Str → Option Value} {base : Heap} {k : Nat} {f : Addr} {name qual : Str} {params : Arguments} {body : List Stmt} {scope : Scope} {dV kV doc pm cdv ct oc : Value} {an od : Option Addr}
    {osl : Array (Option Value)} {N ps : List Str} {sp : Sp} {n0 : Str} {pr : List Str} (lk : K.lookup f = some ⟨oc, od, .func (PySem.W.fnOf name qual params body scope dV kV doc pm an cdv ct), osl⟩) (hcd : PySem.W.codeIn K cdv qual = true) (S : FnScope N ps scope)
    (hps : ps = n0 :: pr) (hl0 : scope.names.lookup n0 = some .local) (len : ∀ vs H Q E, sp vs H Q E → vs.length = ps.length)
    (hbody : ∀ (A : Around) (outer : List Env) (s : Shared) (H : Hp) (vs : List V) (Q : VK) (E : XK), Room k (A.deeper (envOfC qual scope s.heap.objs.size f cdv)) → sp vs H Q E →
      ∃ t, PSsT (cxOf CX P w K mg base N qual scope f cdv A outer s H E) body t ∧ t { nx := fun _ H' => Q .non H', rt := Q } (L2.start N vs) H) :
    FnOk P w K mg base CX (k + 1) f (PySem.W.fnOf name qual params body scope dV kV doc pm an cdv ct) ps sp := by
  refine ⟨len, fun A outer s H args us vs Q E hr e0 hb r hsp => ?_⟩
  have hl := len _ _ _ _ hsp
  have inK : K.In s.heap := e0.mod.kin.keeps fun b o e => (e0.bs b o e).1
  have lim : s.heap.NoLimit := e0.mod.nolimit.keeps fun b o e => (e0.bs b o e).1
  obtain ⟨u0, ur, rfl⟩ : ∃ u0 ur, us = u0 :: ur := by
    have := r.length
    rw [hl, hps] at this
    cases us with
    | nil => cases this
    | cons a b => exact ⟨a, b, rfl⟩
  have kinds : ∀ y ∈ pr.zip ur, scope.names.lookup y.1 = some .local ∨ (scope.names.lookup y.1 = some .cell ∧ ((cellsFrom (s.heap.objs.size + 1) scope.names []).lookup y.1).isSome = true) := fun ⟨n, v⟩ hy => by
    rcases S.par n (by rw [hps]; exact .tail _ (List.of_mem_zip hy).1) with q | q
    · exact .inl q
    · exact .inr ⟨q, PySem.W.cellsFrom_some _ _ _ (.inl q)⟩
  refine codeAny_call_function hr.depth (inK _ _ lk) rfl S.co S.gen rfl (PySem.W.codeRec_of inK hcd) (hb _ _ _ _ ?_)
  have ez : ps.zip (u0 :: ur) = (n0, u0) :: pr.zip ur := by rw [hps]; rfl
  rw [ez]
  refine newEnvT S.kind hl0 kinds fun env he s1 x k1 => ?_
  rw [← ez] at x
  subst he
  refine ⟨lim.keeps x.toInCall.keep, codeAny_func ?_⟩
  obtain ⟨t, ht, hq⟩ := hbody A outer s H vs Q E (hr.deeper _) hsp
  have I : Inv (cxOf CX P w K mg base N qual scope f cdv A outer s H E) [] (L2.start N vs) H s1 := inv_start S hr.hd e0 hl r x
  refine wpAny_mono (ht [] s1 (L2.start N vs) H _ k1 I hq) (fun fl z hz => ?_) fun e z hz => hz
  have done : ∀ {σ' : L2.St} {H' : Hp} {v : V} {u : Value}, Inv (cxOf CX P w K mg base N qual scope f cdv A outer s H E) [] σ' H' z → RelV v u → Q v H' → CE outer P w H s Q u z :=
    fun {σ' H' v u} J rv q => ⟨v, H', J.os, J.bare, J.base, J.hok, rv, q⟩
  cases fl with
  | ret u =>
    obtain ⟨v, σ', H', J, rv, q⟩ := hz
    exact done J rv q
  | next =>
    obtain ⟨σ', H', J, q⟩ := hz
    exact done (v := V.non) (u := Value.none) J rfl q
  | brk =>
    obtain ⟨_, _, _, q⟩ := hz
    exact q.elim
  | cont =>
    obtain ⟨_, _, _, q⟩ := hz
    exact q.elim
section
variable [KC]
structure SDT (X : Cx) (E : XK) (st : Stmt) (w : WS) : Prop where
  ex : ∃ t, PST X st t ∧ ∀ (q : DEnds) (ρ : Ev), w q ρ → ∀ (F : Fr) (σ : L2.St) (H S : Hp) (D : Ends), Rep F ρ σ H S → EndsOk X.mg E F q D → t D σ H
structure SDsT (X : Cx) (E : XK) (st : List Stmt) (w : WS) : Prop where
  ex : ∃ t, PSsT X st t ∧ ∀ (q : DEnds) (ρ : Ev), w q ρ → ∀ (F : Fr) (σ : L2.St) (H S : Hp) (D : Ends), Rep F ρ σ H S → EndsOk X.mg E F q D → t D σ H
section
variable {P : Program} {w : World} {K : PySem.W.Frag} {mg : Str → Option Value} {base : Heap}
theorem fn_okT {x qual : Str} {st : Stmt} {f : Addr} {fd : FuncData} {N ps pr : List Str} {n0 : Str} {k : Nat} {sp : Spec} (F : Fun K x qual st f fd) (S : FnScope N ps (defScope st)) (hps : ps = n0 :: pr) (hl0 : (defScope st).names.lookup n0 = some .local) (len : ∀ ds x R, sp ds x R → ds.length = ps.length)
    (hbody : ∀ (cdv : Value) (A : Around) (outer : List Env) (s : Shared) (H : Hp) (E : XK), Room k (A.deeper (envOfC qual (defScope st) s.heap.objs.size f cdv)) → XOk (cxF P w K mg base N qual (defScope st) f cdv A outer s H E) E →
      ∃ ws, SDsT (cxF P w K mg base N qual (defScope st) f cdv A outer s H E) E (defBody st) ws ∧ ∀ ds x R, sp ds x R → ws (endsOf R x) (startE N.length ds)) :
    FnOk P w K mg base (L2N.CX P w) (k + 1) f fd ps (spOf mg sp) := by
  have hpl : ps.length ≤ N.length := by
    have := congrArg List.length S.pre
    rw [List.length_take] at this
    omega
  obtain ⟨_, _, _, _, _, _, cdv, _, _, rfl, lk, hc⟩ := F.ex
  refine fn_ofT2 lk hc S hps hl0 (fun vs H Q E h => ?_) (fun A outer s H vs Q E hr h => ?_)
  · obtain ⟨ds, S, x, R, _, hd, hs, _⟩ := h
    rw [hd.len]
    exact len ds x R hs
  · obtain ⟨ds, S0, x, R, ⟨sh, tb⟩, hd, hs, k1, k2⟩ := h
    obtain ⟨ws, sd, pure⟩ := hbody cdv A outer s H E hr xk_fn
    obtain ⟨t, pt, so⟩ := sd.ex
    have hl : ds.length ≤ N.length := by rw [len ds x R hs]; exact hpl
    have gr : ∀ {H' S' : Hp}, FGrow { H0 := H, S0 := S0, M := fun _ => False } H' S' → Grow H S0 H' S' := fun f => ⟨⟨fun a o e n => f.hh a o (fun z => z) e n, f.al, f.ft⟩, f.ss, f.sh, f.nw⟩
    refine ⟨t, pt, so _ _ (pure ds x R hs) _ _ H S0 _ (rep_start sh tb hd hl) ⟨fun ρ σ H' S' q r => k1 _ _ H' S' q (gr r.fg) (show Dat S' .non .non from .n), fun r ρ v σ H' S' q rp p => k1 r v H' S' q (gr rp.fg) p, fun _ _ _ _ z => z.elim, fun _ _ _ _ z => z.elim, fun n C H' S' h1 h2 h3 => k2 n C H' S' h1 h2 (gr h3)⟩⟩
end
end
end NL

/-! the words: any([f(a, b.replace(c, "")) for c in b]) in a for's test -/
namespace NL
open PySem PySem.Spec L2
open PyProof.Rows hiding St
section
variable [KC] {X : Cx} {E : XK}
structure DFT (X : Cx) (E : XK) (e : Expr) (w : WL) : Prop where
  ex : ∃ t, PET X e t ∧ ∀ (x : XS) (ρ : Ev) (Q : List D → Prop), w x ρ Q → ∀ (F : Fr) (σ : L2.St) (H S : Hp) (Q' : VK), Rep F ρ σ H S → ExOk X.mg E x H S →
    (∀ xs p vs H' S', Q xs → Grow H S H' S' → H p = none → S' p = none → H' p = some (.lst vs) → Dats S' xs vs → Q' (.ref p) H') → t σ H Q'
structure EDT (X : Cx) (E : XK) (e : Expr) (w : WE) : Prop where
  ex : ∃ t, PET X e t ∧ ∀ (x : XS) (ρ : Ev) (Q : D → Prop), w x ρ Q → ∀ (F : Fr) (σ : L2.St) (H S : Hp) (Q' : VK), Rep F ρ σ H S → ExOk X.mg E x H S →
    (∀ d v H' S', Q d → Grow H S H' S' → Dat S' d v → Q' v H') → t σ H Q'
structure TDT (X : Cx) (E : XK) (e : Expr) (w : WT) : Prop where
  ex : ∃ t, PTT X e t ∧ ∀ (x : XS) (ρ : Ev) (Q : Bool → Prop), w x ρ Q → ∀ (F : Fr) (σ : L2.St) (H S : Hp) (Q' : Bool → Hp → Prop), Rep F ρ σ H S → ExOk X.mg E x H S →
    (∀ b H' S', Q b → Grow H S H' S' → Q' b H') → t σ H Q'
structure WDT (X : Cx) (E : XK) (e : Expr) (w : WT) : Prop where
  ex : ∃ t, PWT X e t ∧ ∀ (x : XS) (ρ : Ev) (Q : Bool → Prop), w x ρ Q → ∀ (F : Fr) (σ : L2.St) (H S : Hp) (Q' : Bool → Hp → Prop), Rep F ρ σ H S → ExOk X.mg E x H S →
    (∀ b H' S', Q b → Grow H S H' S' → Q' b H') → t σ H Q'
def wTxt (i1 : Nat) : WL := fun x ρ Q => match ρ[i1]? with
  | some (.fz (.str b)) => Q (signs b)
  | _ => False
def wHoldR (sp : Spec) (z : Str) (i0 i1 i2 : Nat) : WE := fun x ρ Q => match ρ[i0]?, ρ[i1]?, ρ[i2]? with
  | some (.fz d0), some (.fz (.str b)), some (.fz (.str c)) => b.length + (b.length + 1) * z.length ≤ 16777216 ∧ (c == z) = false ∧ Ask sp [d0, .str (Txt.replace b c z)] x (fun r => Q r.d) ⟨⟩
  | _, _, _ => False
theorem holdR_can {mg : Str → Option Value} {sp : Spec} {z : Str} {i0 i1 i2 : Nat} {σ : L2.St} {H : Hp} {Q' : VK} (h : canE mg E0 (wHoldR sp z i0 i1 i2) σ H Q') : tCallR (spOf mg sp) E0 z i0 i1 i2 σ H Q' := by
  obtain ⟨x, ρ, Q, F, S, hw, rp, ex, k⟩ := h
  unfold wHoldR at hw
  split at hw
  · rename_i d0 b c e0 e1 e2
    obtain ⟨hz, hcz, hw⟩ := hw
    obtain ⟨v0, s0, h0⟩ := rp.fz e0
    obtain ⟨v1, s1, h1⟩ := rp.fz e1
    obtain ⟨v2, s2, h2⟩ := rp.fz e2
    unfold Dat at h1 h2
    subst h1 h2
    refine ⟨v0, b, c, s0, s1, s2, hz, hcz, [d0, .str (Txt.replace b c z)], S, x, _, ⟨rp.sh, rp.fg.tb⟩, ?_, hw, fun r v H2 S2 q2 g2 p2 => ?_, fun n C H2 S2 xn hC g2 => ex n C H2 S2 xn hC g2⟩
    · rw [List.append_nil]
      exact .cons h0 (.one (by unfold Dat; rfl))
    · obtain ⟨S3, g3, p3⟩ := p2.dat g2
      exact k _ _ H2 S3 q2 g3 p3
  · exact hw.elim
theorem its_ok {b : Str} {S1 : Hp} : ItOk (Its b) S1 (signs b) := by
  intro i H S e1 e2
  refine ⟨fun d hd => ?_, fun hl => ?_⟩
  · unfold signs at hd
    rw [List.getElem?_map] at hd
    cases q : b.cps.toList[i]? with
    | none => rw [q] at hd; cases hd
    | some c =>
      rw [q] at hd
      cases hd
      have q2 : b.cps[i]? = some c := by rw [← Array.getElem?_toList]; exact q
      refine ⟨(Array.getElem?_eq_some_iff.mp q2).1, fun x H' y => ?_⟩
      obtain ⟨rfl, c', h1, rfl⟩ := y
      rw [q2] at h1
      cases h1
      exact ⟨S, .refl e2, by unfold Dat; rfl⟩
  · show b.cps.size ≤ i
    have : (signs b).length = b.cps.size := by unfold signs; rw [List.length_map]; exact Array.length_toList
    omega
theorem df_lcR {sp : Spec} {z y x1 : Str} {i0 i1 i : Nat} {elt : Expr} {scope : Scope} {own : List (Str × Nat)} {vs : List Nat} {pos py p1 : Pos} (hc : X.calm = true) (nd : X.N.Nodup) (ok : BlkOk X.N X.env.scope scope own)
    (he : ∀ (s : Shared) (H : Hp) (C : Addr) (cl : List (Str × Addr)) (fp : List Addr), RawE (X.blk s H scope (compEnvC scope cl C X.env) fp) y i elt (tCallR (spOf X.mg sp) E0 z i0 i1 i))
    (hi : X.N[i]? = some y := by rfl) (h1 : X.N[i1]? = some x1 := by rfl) (v1 : Vis X.env.scope x1 := by first | exact Or.inl rfl | exact Or.inr (Or.inl rfl) | exact Or.inr (Or.inr rfl))
    (hy : ∀ (s : Shared) (H : Hp) (C : Addr) (cl : List (Str × Addr)) (fp : List Addr), (X.blk s H scope (compEnvC scope cl C X.env) fp).env.scope.names.lookup y = some .local := by intros; rfl)
    (hvs : own.map (·.2) = vs := by rfl) (his : i ∈ vs := by decide) (hs : ∀ x, foldedSetIterable (.Name x1 p1) X.env x = pure x := by intro _; rfl)
    (hd1 : (x1 == ("__debug__" : Str)) = false := by decide) (hc1 : (x1 == ("__classdict__" : Str)) = false := by decide) :
    DFT X E (.ListComp elt [⟨.Name y py, .Name x1 p1, [], 0⟩] scope pos) (wLc (wTxt i1) (wgName i) wtYes (wHoldR sp z i0 i1 i) vs) := by
  subst hvs
  refine ⟨_, pet_lcR hc nd ok hi h1 v1 hy he hs hd1 hc1, fun x ρ Q hw F σ H S Q' rp ex k => ?_⟩
  unfold wLc wTxt at hw
  split at hw
  · rename_i b e1
    obtain ⟨w1, s1, d1⟩ := rp.fz e1
    unfold Dat at d1
    subst d1
    refine ⟨b, s1, fun D0 hD => ?_⟩
    obtain ⟨W, w0, turn⟩ := lc_sound (tt := tYes) (mg := X.mg) (is := [i]) (vs := own.map (·.2)) (Q' := Q') (J := Its b) (by intro j hj; rw [List.mem_singleton] at hj; rw [hj]; exact his) rp (.refl rp.sh) its_ok hD hw (fun ρ2 σ2 H S R R' h r k => k true H S h (.refl r.sh)) (fun xs ws H' S' q g h0 h1 h2 hd => k xs D0 ws H' S' q g h0 h1 h2 hd)
    refine ⟨W, w0, fun j m H2 w2 => ?_⟩
    rcases turn j m H2 w2 with t1 | ⟨go, Nx, hN, step⟩
    · exact .inl t1
    · refine .inr ⟨go, Nx, hN, fun x2 H3 y3 => ?_⟩
      obtain ⟨d, ρ3, Q3, F3, S3, a1, a2, a3, a4⟩ := step x2 H3 y3
      obtain ⟨b1, b2⟩ := a4 _ _ a1 (a2.set a3) fun us hu => wipe_set (hu i (by simp))
      refine ⟨b1, ?_⟩
      have b3 : canE X.mg E0 (wHoldR sp z i0 i1 i) _ H3 _ := b2
      exact holdR_can b3
  · exact hw.elim
variable {wa : WE} {wl : WL} {wt wu : WT} {ws wv : WS}
theorem ed_anyT {x : Str} {p pos : Pos} {e : Expr} {id : String} {g : List D → (D → Prop) → Prop} (hc : CalD X (.builtin id) g) (hg : Gl X x) (hm : X.mg x = none) (hv : bootBuiltins x = some (.builtin id)) (h : DFT X E e wl) (hn : x ≠ "__name__" := by decide)
    (hdb : (x == ("__debug__" : Str)) = false := by decide) (he : starEach [e] X.env = (false, eval e X.env) :: starEach [] X.env := by rfl) (hpl : (backTo pos (starEach [] X.env)).any (·.1) = false := by rfl) :
    EDT X E (.Call (.Name x p) [e] [] pos) (wB g (wCons (wNew wl) wNil)) := by
  obtain ⟨r, o, so⟩ := hc.ex
  obtain ⟨t, pt, s⟩ := h.ex
  refine ⟨_, pet_callB o hg hm hv (pat_cons pt pat_nil he) hn hdb he hpl, fun x ρ Q hw F σ H S Q' rp ex k => ?_⟩
  refine s x ρ _ hw F σ H S _ rp ex fun xs p vs H1 S1 q1 g1 a0 a1 a2 hd => ?_
  have g2 := g1.share a0 a1 a2
  have hb : BDats H1 (upd S1 p (.lst vs)) [.lst xs] [.ref p] := ⟨_, _, rfl, BDat.of g2.sh (by unfold Dat; exact ⟨p, vs, rfl, upd_same, Dats.mono (same_upd a1) _ _ hd⟩), rfl⟩
  exact so [.lst xs] Q q1 H1 (upd S1 p (.lst vs)) [.ref p] Q' g2.sh hb fun z y H3 S3 q3 g3 h3 => k z y H3 S3 q3 (g2.trans g3) h3
theorem td_valT {a : Expr} (ha : EDT X E a wa) (he : ∀ whole, isTrue a X.env whole = (do let v ← whole; standAt a.pos; holding [v] (truthy v)) := by intro _; rfl) : TDT X E a (wtVal wa) := by
  obtain ⟨ta, pa, sa⟩ := ha.ex
  refine ⟨_, ptt_truth pa he, fun x ρ Q hw F σ H S Q' rp ex k => ?_⟩
  refine sa x ρ _ hw F σ H S _ rp ex fun d u H1 S1 q1 g1 h1 => ?_
  obtain ⟨kb, e, q⟩ := trD_sound g1.sh (BDat.of g1.sh h1) q1
  exact ⟨kb, e, k kb H1 S1 q g1⟩
theorem wd_or1T {a : Expr} {pos : Pos} (ha : TDT X E a wt) : WDT X E (.BoolOp .Or [a] pos) wt := by
  obtain ⟨t, p, s⟩ := ha.ex
  exact ⟨_, pwt_or1 p, s⟩
theorem wd_orT {a b : Expr} {rest : List Expr} {pos : Pos} (ha : TD X E a wt) (hb : WDT X E (.BoolOp .Or (b :: rest) pos) wu) : WDT X E (.BoolOp .Or (a :: b :: rest) pos) (wOr wt wu) := by
  obtain ⟨t, p, s⟩ := ha.ex
  obtain ⟨t', p', s'⟩ := hb.ex
  refine ⟨_, pwt_or p p', fun x ρ Q hw F σ H S Q' rp ex k => ?_⟩
  refine s x ρ _ hw F σ H S _ rp ex fun b H1 S1 q1 g1 => ?_
  cases b with
  | true => exact iteT (k _ H1 S1 q1 g1)
  | false => exact iteF (s' x ρ _ q1 F σ H1 S1 _ (rp.grow g1) (ex.grow g1) fun b H2 S2 q2 g2 => k b H2 S2 q2 (g1.trans g2))
theorem td_wT {e : Expr} (h : WDT X E e wt) : TDT X E e wt := by
  obtain ⟨t, p, s⟩ := h.ex
  exact ⟨_, p.pt, s⟩
theorem sd_ifT {c : Expr} {p1 p2 : List Stmt} {pos : Pos} (hc : TDT X E c wt) (ha : SDs X E p1 ws) (hb : SDs X E p2 wv) : SDT X E (.If c p1 p2 pos) (wIfS wt ws wv) := by
  obtain ⟨t, p, s⟩ := hc.ex
  obtain ⟨ta, pa, sa⟩ := ha.ex
  obtain ⟨tb, pb, sb⟩ := hb.ex
  refine ⟨_, pst_if p pa pb, fun q ρ hw F σ H S D rp o => ?_⟩
  refine s q.ex ρ _ hw F σ H S _ rp (o.exOk rp) fun b H1 S1 q1 g1 => ?_
  cases b with
  | true => exact iteT (sa q ρ q1 F σ H1 S1 D (rp.grow g1) o)
  | false => exact iteF (sb q ρ q1 F σ H1 S1 D (rp.grow g1) o)
theorem sds_oneT {st : Stmt} (h1 : SDT X E st ws) : SDsT X E [st] ws := by
  obtain ⟨t, p, s⟩ := h1.ex
  exact ⟨_, psst_one p, s⟩
theorem sds_consT1 {st : Stmt} {sts : List Stmt} (h1 : SDT X E st ws) (h2 : SDs X E sts wv) : SDsT X E (st :: sts) (wSeqS ws wv) := by
  obtain ⟨t, p, s⟩ := h1.ex
  obtain ⟨t', p', s'⟩ := h2.ex
  refine ⟨_, psst_cons p (.of p'), fun q ρ hw F σ H S D rp o => ?_⟩
  exact s _ ρ hw F σ H S _ rp ⟨fun ρ1 σ1 H1 S1 q1 r1 => s' q ρ1 q1 F σ1 H1 S1 D r1 o, o.rt, o.bk, o.ct, o.ex⟩
theorem sds_consT {st : Stmt} {sts : List Stmt} (h1 : SD X E st ws) (h2 : SDsT X E sts wv) : SDsT X E (st :: sts) (wSeqS ws wv) := by
  obtain ⟨t, p, s⟩ := h1.ex
  obtain ⟨t', p', s'⟩ := h2.ex
  refine ⟨_, psst_cons (.of p) p', fun q ρ hw F σ H S D rp o => ?_⟩
  exact s _ ρ hw F σ H S _ rp ⟨fun ρ1 σ1 H1 S1 q1 r1 => s' q ρ1 q1 F σ1 H1 S1 D r1 o, o.rt, o.bk, o.ct, o.ex⟩
theorem sds_frzT (i : Nat) {sts : List Stmt} (h : SDsT X E sts ws) : SDsT X E sts (wFrz i ws) := by
  obtain ⟨t, p, s⟩ := h.ex
  refine ⟨t, p, fun q ρ hw F σ H S D rp o => ?_⟩
  unfold wFrz at hw
  split at hw
  · rename_i c hi
    obtain ⟨S', r'⟩ := rp.frz hi
    exact s q _ hw F σ H S' D r' o
  · exact s q ρ hw F σ H S D rp o
  · exact hw.elim
theorem sd_forT {tg iter : Expr} {is : List Nat} {g : WG} {wi : WL} {body : List Stmt} {pos : Pos} (xk : XOk X E) (hc : X.calm = true) (hi : ID X E tg iter wi) (hg : GD X tg is g) (hb : SDsT X E body ws) (hs : ∀ x, foldedSetIterable iter X.env x = pure x := by intro _; rfl) :
    SDT X E (.For tg iter body [] pos) (wFor wi g ws) := by
  obtain ⟨ti, pti, si⟩ := hi.ex
  obtain ⟨tg, pg, sg⟩ := hg.ex
  obtain ⟨tb, pb, sb⟩ := hb.ex
  refine ⟨_, pst_forT xk.own hc pti pg pb hs, fun q ρ hw F σ H S D rp o => ?_⟩
  refine si q.ex ρ _ hw F σ H S _ rp (o.exOk rp) fun ds J H1 S1 q1 g1 hJ => ?_
  have rp1 := rp.grow g1
  have ss1 := rp1.fg.ss
  have nw1 := rp1.fg.nw
  let W : Nat → Nat → L2.St → Hp → Prop := fun i m σ H => m = ds.length - i ∧ i ≤ ds.length ∧ ∃ ρ S, Rep { F with S0 := S1 } ρ σ H S ∧ loopL g ws q (ds.drop i) ρ
  refine ⟨W, ⟨ds.length, by simp, Nat.zero_le _, ρ, S1, rep_to rp1, q1⟩, ?_⟩
  rintro i m σ2 H2 ⟨rfl, hi, ρ2, S2, r2, hl⟩
  rcases Nat.lt_or_ge i ds.length with hlt | hge
  · obtain ⟨d, hdi⟩ : ∃ d, ds[i]? = some d := ⟨_, List.getElem?_eq_getElem hlt⟩
    obtain ⟨go, yl⟩ := (hJ i H2 S2 r2.fg.ss r2.fg.sh).1 d hdi
    have hdrop : ds.drop i = d :: ds.drop (i + 1) := by
      rw [List.drop_eq_getElem_cons hlt]
      congr 1
      rw [List.getElem?_eq_getElem hlt] at hdi
      exact Option.some.inj hdi
    rw [hdrop] at hl
    refine .inr ⟨go, W (i + 1) (ds.length - (i + 1)), fun σ' H' h => ⟨_, by omega, h⟩, fun x H' y => ?_⟩
    obtain ⟨S', g', dx⟩ := yl x H' y
    refine sg d ρ2 _ hl { F with S0 := S1 } σ2 H' S' x _ (r2.grow g') dx fun ρ3 σ3 h3 r3 _ => ?_
    refine sb _ ρ3 h3 { F with S0 := S1 } σ3 H' S' _ r3 ⟨fun ρ4 σ4 H4 S4 q4 r4 => ⟨rfl, hlt, ρ4, S4, r4, q4⟩, fun r ρ4 v σ4 H4 S4 q4 r4 p4 => o.rt r ρ4 v σ4 H4 S4 q4 (rep_in r4 ss1 nw1) p4,
      fun ρ4 σ4 H4 S4 q4 r4 => o.nx ρ4 σ4 H4 S4 q4 (rep_in r4 ss1 nw1), fun ρ4 σ4 H4 S4 q4 r4 => ⟨rfl, hlt, ρ4, S4, r4, q4⟩, fun n C H4 S4 h1 h2 h3 => o.ex n C H4 S4 h1 h2 (fg_in h3 ss1 nw1)⟩
  · have e : i = ds.length := by omega
    subst e
    rw [List.drop_length] at hl
    exact .inl ⟨(hJ _ H2 S2 r2.fg.ss r2.fg.sh).2 (Nat.le_refl _), o.nx ρ2 σ2 H2 S2 hl (rep_in r2 ss1 nw1)⟩
/-- raw_call, its side goals by themselves -/
theorem raw_callD {k : Nat} {f : Addr} {fd : FuncData} {ps : List Str} {sp : Sp} {CX : CXT} {x x0 x1 x2 z : Str} (i0 i1 i2 : Nat) {j0 : Nat} {p p0 p1 p2 p3 p4 p5 pos : Pos} (F : FnOk X.prog X.w X.K X.mg X.base CX k f fd ps sp) (hr : Room k X.A) (hx : Passes CX X E) (hg : Gl X x) (hm : X.mg x = some (.ref f)) (hk : PySem.W.keepIn X.K (.ref f) = true) (hb : Binds X.K fd ps [])
    (h0 : X.N[i0]? = some x0 := by rfl) (v0 : Vis X.env.scope x0 := by first | exact Or.inl rfl | exact Or.inr (Or.inl rfl) | exact Or.inr (Or.inr rfl)) (h1 : X.N[i1]? = some x1 := by rfl) (v1 : Vis X.env.scope x1 := by first | exact Or.inl rfl | exact Or.inr (Or.inl rfl) | exact Or.inr (Or.inr rfl)) (kl : X.env.kindOf x2 = some .local := by rfl)
    (hdb : (x == ("__debug__" : Str)) = false := by decide) (hd0 : (x0 == ("__debug__" : Str)) = false := by decide) (hc0 : (x0 == ("__classdict__" : Str)) = false := by decide) (hd1 : (x1 == ("__debug__" : Str)) = false := by decide) (hc1 : (x1 == ("__classdict__" : Str)) = false := by decide) (hd2 : (x2 == ("__debug__" : Str)) = false := by decide)
    (he : starEach [.Name x0 p0, .Call (.Attribute (.Name x1 p1) "replace" p3) [.Name x2 p2, .Constant (.str z) j0 p4] [] p5] X.env = [(false, eval (.Name x0 p0) X.env), (false, eval (.Call (.Attribute (.Name x1 p1) "replace" p3) [.Name x2 p2, .Constant (.str z) j0 p4] [] p5) X.env)] := by rfl)
    (hst : starEach [.Name x2 p2, .Constant (.str z) j0 p4] X.env = [(false, eval (.Name x2 p2) X.env), (false, eval (.Constant (.str z) j0 p4) X.env)] := by rfl)
    (hbase : attributeBase (.Name x1 p1) "replace" X.env (eval (.Name x1 p1) X.env) = eval (.Name x1 p1) X.env := by rfl) (hline : (p3.endLine == p5.line) = true := by rfl) :
    RawE X x2 i2 (.Call (.Name x p) [.Name x0 p0, .Call (.Attribute (.Name x1 p1) "replace" p3) [.Name x2 p2, .Constant (.str z) j0 p4] [] p5] [] pos) (tCallR sp E z i0 i1 i2) :=
  raw_call F hr hx hg hm hk hb h0 v0 h1 v1 kl hdb hd0 hc0 hd1 hc1 hd2 he hst hbase hline
/-- for x in xs: if t: return .. -- xs the def's own list of texts, the test always false; behind it the list is the def's own again -/
def wForThaw (i j : Nat) (wt : WT) : WS := fun q ρ => match ρ[i]? with
  | some (.own false (.lst xs)) => i ≠ j ∧ j < ρ.length ∧ (∀ d ∈ xs, (∃ z, d = .str z) ∧ wt X0 ((ρ.set i (.fz (.lst xs))).set j (.fz d)) fun b => b = false) ∧ q.nx ρ ∧ ∀ d ∈ xs, q.nx (ρ.set j (.fz d))
  | _ => False
theorem sd_forThawT {c : Expr} {p1 : List Stmt} {y x : Str} {pos py px pos2 : Pos} (i j : Nat) (xk : XOk X E) (hc : X.calm = true) (nd : X.N.Nodup) (ht : TDT X E c wt) (ha : SDs X E p1 ws)
    (hi : X.N[i]? = some x := by rfl) (hv : Vis X.env.scope x := by first | exact Or.inl rfl | exact Or.inr (Or.inl rfl) | exact Or.inr (Or.inr rfl)) (hdx : (x == ("__debug__" : Str)) = false := by decide) (hcx : (x == ("__classdict__" : Str)) = false := by decide)
    (hj : X.N[j]? = some y := by rfl) (hy : Loc X.env.scope y := by first | exact Or.inl rfl | exact Or.inr rfl) (hf : X.fn y = true ∨ X.env.scope.names.lookup y = some .local := by first | exact .inl rfl | exact .inr rfl)
    (hs : ∀ a, foldedSetIterable (.Name x px) X.env a = pure a := by intro _; rfl) : SDT X E (.For (.Name y py) (.Name x px) [.If c p1 [] pos2] [] pos) (wForThaw i j wt) := by
  obtain ⟨tc, pc, sc⟩ := ht.ex
  obtain ⟨ta, pa, _⟩ := ha.ex
  refine ⟨_, pst_forT xk.own hc (pi_list (pe_var hi hv hdx hcx)) (pg_name nd hj hy hf) (psst_one (pst_if pc pa pss_nil)) hs, fun q ρ hw F σ H S D rp o => ?_⟩
  unfold wForThaw at hw
  split at hw
  · rename_i xs e0
    obtain ⟨ne, lj, hw, q0, q1⟩ := hw
    obtain ⟨p, ho, e1, e2, e3, e4, _, e6⟩ := rp.own e0
    obtain ⟨vs, rfl, dv⟩ := e4
    have eP : upd S p (.lst vs) = plusS H S [.ref p] := by
      funext a
      unfold plusS upd
      by_cases z : a = p
      · subst z
        rw [if_pos rfl, if_pos ⟨e2, by simp [tops], _, e3, (fun _ w => by cases w), (fun _ w => by cases w)⟩, e3]
      · rw [if_neg z, if_neg (fun w => by have := w.2.1; simp [tops] at this; exact z this.symm)]
    have r2 := rp.frzAt e0 e1 e2 e3 ⟨vs, rfl, dv⟩ (e6 rfl)
    rw [eP] at r2
    have sp : plusS H S [.ref p] p = some (.lst vs) := by rw [← eP]; exact upd_same
    have dv2 : Dats (plusS H S [.ref p]) xs vs := Dats.mono plus_same _ _ dv
    have back : ∀ {H2 S2 : Hp}, Grow H (plusS H S [.ref p]) H2 S2 → Rep F ρ σ H2 (minusS H S S2 [.ref p]) := fun g => rp.grow (minus_grow rp.sh g)
    refine ⟨.ref p, e1, p, rfl, ⟨vs, .of e3⟩, ?_⟩
    have hJ : ItOk (Itl X.K p) (plusS H S [.ref p]) xs := it_list (fun H5 e => .of (e _ _ sp)) dv2
    let W : Nat → Nat → L2.St → Hp → Prop := fun n m σ2 H2 => m = xs.length - n ∧ n ≤ xs.length ∧ ∃ S2, Grow H (plusS H S [.ref p]) H2 S2 ∧ (σ2 = σ ∨ ∃ d ∈ xs, ∃ z, d = .str z ∧ σ2 = σ.set j (some (.str z)))
    refine ⟨W, ⟨xs.length, by simp, Nat.zero_le _, _, .refl (plus_sh rp.sh), .inl rfl⟩, ?_⟩
    rintro n m σ2 H2 ⟨rfl, hn, S2, g2, hσ⟩
    rcases Nat.lt_or_ge n xs.length with hlt | hge
    · obtain ⟨d, hd⟩ : ∃ d, xs[n]? = some d := ⟨_, List.getElem?_eq_getElem hlt⟩
      have dm := List.mem_of_getElem? hd
      obtain ⟨⟨z, rfl⟩, hwt⟩ := hw _ dm
      obtain ⟨go, yl⟩ := (hJ n H2 S2 g2.ss g2.sh).1 _ hd
      refine .inr ⟨go, W (n + 1) (xs.length - (n + 1)), fun σ' H' h => ⟨_, by omega, h⟩, fun v H' y => ?_⟩
      obtain ⟨S3, g3, dx⟩ := yl v H' y
      unfold Dat at dx
      subst dx
      have eσ : σ2.set j (some (.str z)) = σ.set j (some (.str z)) := by
        rcases hσ with rfl | ⟨_, _, _, _, rfl⟩
        · rfl
        · rw [List.set_set]
      show tIfS tc ta tNext _ (σ2.set j (some (.str z))) H'
      rw [eσ]
      have r3 := (r2.grow (g2.trans g3)).set (i := j) (d := .str z) (v := .str z) (by unfold Dat; rfl)
      refine sc X0 _ _ hwt F _ H' S3 _ r3 (fun n C H' S' h => h.elim) fun b H4 S4 hb g4 => ?_
      subst hb
      exact iteF ⟨rfl, hlt, S4, (g2.trans g3).trans g4, .inr ⟨_, dm, z, rfl, rfl⟩⟩
    · have e : n = xs.length := by omega
      subst e
      refine .inl ⟨(hJ _ H2 S2 g2.ss g2.sh).2 (Nat.le_refl _), ?_⟩
      rcases hσ with rfl | ⟨d, dm, z, rfl, rfl⟩
      · exact o.nx ρ _ H2 _ q0 (back g2)
      · exact o.nx _ _ H2 _ (q1 _ dm) ((back g2).set (by unfold Dat; rfl))
  · exact hw.elim
end
end NL

/-! What holds a cord; a sign taken out of a text. -/
namespace NL
open PySem PySem.Spec L2
open PyProof.Rows hiding St
/-- the pieces on some nails -/
def kp (l : List Nat) (c : List Pc) : List Pc := c.filter fun p => onN l p
theorem kp_wo {l : List Nat} {c : List Pc} (h : Nl c) : kp l c = wo (cpl l) c := by
  unfold kp wo
  refine List.filter_congr fun p hp => ?_
  obtain ⟨y, e, h1, h2⟩ := h p hp
  rw [onN_iff e, onN_iff e]
  have := mem_cpl (s := l) (x := y)
  by_cases z : y ∈ l
  · have : ¬ y ∈ cpl l := fun w => (this.mp w).2 z
    simp [z, this]
  · have : y ∈ cpl l := this.mpr ⟨⟨h1, h2⟩, z⟩
    simp [z, this]
theorem meet_cpl {F : List (List Nat)} (hF : ∀ f ∈ F, Lt f) {s : List Nat} : MeetAll F s ↔ ¬ Up F (cpl s) := by
  constructor
  · rintro h ⟨f, hf, p⟩
    obtain ⟨x, h1, h2⟩ := meets_iff.mp (h f hf)
    exact (mem_cpl.mp (part_iff.mp p x h2)).2 h1
  · intro h f hf
    apply Classical.byContradiction
    intro n
    refine h ⟨f, hf, part_iff.mpr fun x hx => mem_cpl.mpr ⟨hF f hf x hx, fun z => n (meets_iff.mpr ⟨x, z, hx⟩)⟩⟩
theorem nb_fam {F : List (List Nat)} (h : ∀ t ∈ F, Lt t) : ∀ {n : Nat}, nb (n + 2) (.lst (F.map dT)) = true := fun {n} => by
  simp only [nb, List.all_map, List.all_eq_true]
  exact fun t ht => tx_ok (h t ht)
theorem falls_min {c : List Pc} (n : Nl c) : IsMin (fun s => nf (wo s c) = []) (fallsG (nf c) (az (lts (nf c)))) := by
  have nl := n.nf
  have e := fallsG_same (l := lts (nf c)) (m := List.range' 97 26) nl (fun x hx => (mem_az (lts_lt nl)).mpr hx) fun x hx => (mem_az lt_az).mpr (by
    have := az_lt _ x hx
    exact List.mem_range'_1.mpr ⟨this.1, by omega⟩)
  rw [e]
  have all : ∀ s, az s = s → SoN (az (List.range' 97 26)) s := fun s hs => ⟨hs, fun x hx => (mem_az lt_az).mpr (by
    rw [← hs] at hx
    have := az_lt _ x hx
    exact List.mem_range'_1.mpr ⟨this.1, by omega⟩)⟩
  refine ⟨(sets_sorted _).sublist (greedy_sub _ _), greedy_nodup _ _, fun s => ?_⟩
  rw [mem_fallsG]
  constructor
  · rintro ⟨a, b, cc⟩
    exact ⟨a.1, by show nf (wo s c) = []; rw [← wo_nf]; exact b, fun t ht ut pt => cc t (all t ht) (by rw [wo_nf]; exact ut) pt⟩
  · rintro ⟨a, b, cc⟩
    exact ⟨all s a, by rw [wo_nf]; exact b, fun t ht ut pt => cc t ht.1 (by show nf (wo t c) = []; rw [← wo_nf]; exact ut) pt⟩
theorem wo_up {c : List Pc} (n : Nl c) {s t : List Nat} (h : nf (wo s c) = []) (p : part s t = true) : nf (wo t c) = [] := by
  have := wo_more (l := s) (m := t) h
  rw [wo_congr (m := t) n fun x _ _ => ?_] at this
  · exact this
  · rw [List.mem_append]
    exact ⟨fun z => z.elim id fun z => part_iff.mp p x z, .inl⟩
/-- what holds a cord: the nails with which alone it hangs -/
theorem hold_min {c : List Pc} (n : Nl c) {m : List (List Nat)} (h : IsMin (MeetAll (fallsG (nf c) (az (lts (nf c))))) m) : IsMin (fun s => nf (kp s c) ≠ []) m := by
  have fm := falls_min n
  refine h.congr fun s _ => ?_
  rw [meet_cpl fm.lt, fm.up (fun s t a p => wo_up n a p) (az_cpl s), kp_wo n]
theorem kp_up {c : List Pc} (n : Nl c) {s t : List Nat} (h : nf (kp s c) ≠ []) (p : part s t = true) : nf (kp t c) ≠ [] := by
  rw [kp_wo n] at h ⊢
  refine fun z => h (wo_up n z (part_iff.mpr fun x hx => ?_))
  obtain ⟨a, b⟩ := mem_cpl.mp hx
  exact mem_cpl.mpr ⟨a, fun w => b (part_iff.mp p x w)⟩
theorem kp_all {c : List Pc} (n : Nl c) : kp (az (lts c)) c = c := by
  unfold kp
  rw [List.filter_eq_self]
  intro p hp
  obtain ⟨y, e, h1, h2⟩ := n p hp
  rw [onN_iff e, decide_eq_true_eq, mem_az (lts_lt n), mem_lts]
  exact ⟨p, hp, by rw [e, tx_cps]; exact List.mem_singleton.mpr rfl⟩
theorem hold_nil {c : List Pc} (n : Nl c) {m : List (List Nat)} (h : IsMin (fun s => nf (kp s c) ≠ []) m) : m = [] ↔ nf c = [] := by
  constructor
  · intro e
    apply Classical.byContradiction
    intro z
    obtain ⟨t, ht, _⟩ := h.cover _ (az (lts c)) (Nat.le_refl _) (az_az _) (by rw [kp_all n]; exact z)
    rw [e] at ht
    cases ht
  · intro e
    rw [List.eq_nil_iff_forall_not_mem]
    intro t ht
    refine h.is ht ?_
    rw [kp_wo n, ← wo_nf, e]
    rfl
theorem deq_nil {α : Type} {f : α → D} {xs : List α} : deq (.lst (xs.map f)) (.lst []) = decide (xs = []) := deq_dec (by cases xs <;> simp)
theorem kp_len (l : List Nat) (c : List Pc) : (kp l c).length ≤ c.length := List.length_filter_le _ _

theorem filt_mid {a b : List Nat} {y : Nat} (ha : y ∉ a) (hb : y ∉ b) : (a ++ y :: b).filter (fun x => !decide (x = y)) = a ++ b := by
  rw [List.filter_append, List.filter_cons]
  have e : ∀ l : List Nat, y ∉ l → l.filter (fun x => !decide (x = y)) = l := fun l h => by
    rw [List.filter_eq_self]
    intro x hx
    have : x ≠ y := fun e => h (e ▸ hx)
    simp [this]
  simp [e a ha, e b hb]
theorem repl_out {t : List Nat} {y : Nat} (lt : Lt t) (nd : t.Nodup) (hy : y ∈ t) : Txt.replace (tx t) (tx [y]) (.ofString "") = tx (t.filter fun x => !decide (x = y)) := by
  obtain ⟨a, b, rfl⟩ := List.append_of_mem hy
  have na : y ∉ a := fun h => by
    have := List.nodup_append.mp nd
    exact this.2.2 y h y (by simp) rfl
  have nb : y ∉ b := fun h => by
    have := (List.nodup_append.mp nd).2.1
    exact (List.nodup_cons.mp this).1 h
  rw [filt_mid na nb]
  have yy := lt y hy
  have sp := TL.split_join (y := tx [y]) (s := y) (S := []) rfl (by simp [tx]; omega) (parts := [tx a, tx b]) (by simp) (fun p hp => by
    rcases List.mem_cons.mp hp with rfl | hp
    · exact na
    · rw [List.mem_singleton] at hp; subst hp; exact nb)
  have ej : Txt.join (tx [y]) [tx a, tx b] = tx (a ++ y :: b) := by
    rw [TL.join_eq]
    show tx a ++ tx [y] ++ tx b = _
    rw [tx_app, tx_app]
    simp
  rw [ej] at sp
  unfold Txt.split at sp
  split at sp
  · simp at sp
  · split at sp
    · simp at sp
    · rename_i h1 h2
      unfold Txt.replace
      have y1 : ((tx [y]).length == 0) = false := rfl
      rw [Bool.not_eq_true] at h2
      rw [h2, y1, Bool.false_and, Bool.or_false, if_neg (by simp), sp]
      have : Builtin.Str.glued (Str.ofString "") [tx a, tx b] = Txt.join (Str.ofString "") [tx a, tx b] := rfl
      rw [this, TL.join_eq]
      show tx a ++ Str.ofString "" ++ tx b = _
      have e0 : Str.ofString "" = tx [] := rfl
      rw [e0, tx_app, tx_app]
      simp
end NL

/-! a cell that keeps its token over a comprehension: `for c in b: if all([f(b.replace(c, ""), o) for o in xs]): return ..` -/
namespace NL
open PySem PySem.Spec L2
open PyProof.Rows hiding St
section
variable {X : Cx} {pins : List (Addr × Obj)} {σ : L2.St} {H : Hp} {s : Shared}
/-- the cell of y holds just u -/
def RawC (X : Cx) (y : Str) (u : Value) (s : Shared) : Prop := ∃ c, X.env.cells.lookup y = some c ∧ s.heap.IsCell c (some u)
theorem RawC.keeps {y : Str} {u : Value} {z : Shared} (r : RawC X y u s) (hk : ∀ b o, s.heap.get? b = some o → z.heap.get? b = some o) : RawC X y u z := by
  obtain ⟨c, e, h⟩ := r
  exact ⟨c, e, h.keeps hk⟩
theorem rawC_load {y : Str} {u : Value} {A : Around} {Q E : Value → Shared → Prop} {pos : Pos} (hk : X.env.scope.kind = .function) (hl : X.env.kindOf y = some .cell ∨ X.env.kindOf y = some .free) (r : RawC X y u s) (q : Q u s) (hd : (y == ("__debug__" : Str)) = false := by decide) (hcd : (y == ("__classdict__" : Str)) = false := by decide) :
    wpAny (model X.prog X.w) A (eval (.Name y pos) X.env) Q E s := by
  obtain ⟨c, e, h⟩ := r
  rcases hl with hl | hl
  · exact wpAny_Name (wpAny_loadName_cell hk hl e h q) hd
  · exact wpAny_Name (wpAny_loadName_free hk hl e h q hcd) hd
/-- the store to a cell, and what it holds then -/
theorem rawC_store {M : Model} {A : Around} {E : Value → Shared → Prop} {i : Nat} {y : Str} {v : V} {u : Value} {Q : Unit → Shared → Prop} (I : Inv X pins σ H s) (nd : X.N.Nodup) (hi : X.N[i]? = some y) (hk : X.env.scope.names.lookup y = some .cell) (hfn : X.fn y = true) (r : RelV v u)
    (h : ∀ z, Inv X pins (σ.set i (some v)) H z → RawC X y u z → z.toks = s.toks → Q () z) : wpAny M A (storeName X.env y u) Q E s := by
  obtain ⟨m, hn, hl⟩ := id I.loc
  have lti : i < σ.length := by rw [I.len]; exact (List.getElem?_eq_some_iff.mp hi).1
  have nec := I.cne
  obtain ⟨c, hc⟩ := I.ok.has y (.inl hk)
  obtain ⟨w1, z1⟩ := I.cell y c hc
  have other : ∀ {h1 : Heap}, Heap.SameBut c s.heap h1 → ∀ b o, X.s_0.heap.get? b = some o → h1.get? b = s.heap.get? b := fun sb b o e => sb.2 b (Nat.ne_of_lt (Nat.lt_of_lt_of_le (Heap.lt_size e) (I.ok.cab y c hfn hc)))
  refine wpAny_storeName_cell I.ok.kind hk hc z1 (fun h1 hc1 sb => ?_)
  obtain ⟨oc, hoc, hocd⟩ := id z1
  refine h { s with heap := h1 } ⟨I.ok, I.os, I.bare, ⟨fun b o e n hb hx => (other sb b o e).trans (I.base.keep b o e n hb hx), fun b o e n hb hx => ?_, I.base.free, fun b o e hx => ?_, I.base.tups, I.base.frzs, I.base.tbls⟩, ⟨m, hn.sameBut sb (Ne.symm (nec y c hc)), fun j z v1 e1 e2 e3 => ?_⟩, fun z c1 e => ?_, I.free, I.freeC, fun p hp => ?_, fun b ob e => ?_, by simpa using I.len⟩ ⟨c, hc, hc1⟩ rfl
  · obtain ⟨sl, e1⟩ := I.base.slot b o e n hb hx
    exact ⟨sl, (other sb b o e).trans e1⟩
  · obtain ⟨o1, e1⟩ := I.base.there b o e hx
    exact ⟨o1, (other sb b o e).trans e1⟩
  · by_cases hj : j = i
    · subst hj
      rw [hi] at e1; cases e1
      rw [List.getElem?_set_self lti] at e2
      cases e2
      exact ⟨u, r, .inr ⟨.inl hk, c, hc, hc1⟩⟩
    · rw [List.getElem?_set_ne (Ne.symm hj)] at e2
      obtain ⟨u1, r1, q⟩ := hl j z v1 e1 e2 e3
      refine ⟨u1, r1, ?_⟩
      rcases q with q | ⟨k, c2, e, zz⟩
      · exact .inl q
      · refine .inr ⟨k, c2, e, zz.sameBut sb ?_⟩
        rintro rfl
        exact hj (nodup_ix nd e1 (I.ok.inj _ _ _ e hc ▸ hi))
  · by_cases hcc : c1 = c
    · subst hcc; exact ⟨_, hc1⟩
    · obtain ⟨w2, z2⟩ := I.cell z c1 e
      exact ⟨w2, z2.sameBut sb hcc⟩
  · obtain ⟨e, n, ne, nf, d⟩ := I.pin p hp
    refine ⟨(sb.2 p.1 ?_).trans e, n, ne, nf, d⟩
    intro q
    rw [q, hoc] at e
    have q1 : oc = p.2 := Option.some.inj e
    exact d w1 (by rw [← q1]; exact hocd)
  · have hfree := I.freeC y c hc
    refine (I.hok b ob e).stay (fun a w2 ha q => (sb.2 a ?_).trans q) (fun _ q => q) fun _ _ q => q
    rintro rfl
    rcases ha with rfl | ha
    · rw [hfree] at e; cases e
    · rw [hfree] at ha; cases ha
/-- a captured cell in the block's own cells -/
theorem blk_cell {scope : Scope} {own : List (Str × Nat)} {y : Str} {c : Addr} (I : Inv X pins σ H s) (ok : BlkOk X.N X.env.scope scope own) (hl : scope.names.lookup y = some .free) (hc : X.env.cells.lookup y = some c) :
    (compEnvC scope (cellsFrom (s.heap.objs.size + 1) scope.names (cloFrom X.env.cells scope.names [])) s.heap.objs.size X.env).cells.lookup y = some c := by
  show (cellsFrom (s.heap.objs.size + 1) scope.names (cloFrom X.env.cells scope.names [])).lookup y = some c
  rw [← Heap.size_push s.heap { cls := .type "dict", data := .dict #[] }]
  have hy : (y, NameKind.free) ∈ scope.names := PySem.mem_of_lookup hl
  obtain ⟨c1, e1⟩ := mem_lookup (cells_acc (names := scope.names) (n := (s.heap.push { cls := .type "dict", data := .dict #[] }).objs.size) (cloFrom_has (cells := X.env.cells) (acc := []) hy))
  rw [e1]
  rcases cells_mem (PySem.mem_of_lookup e1) with hm | ⟨h1, _, _⟩
  · rcases cloFrom_mem hm with hm | ⟨_, rfl⟩
    · cases hm
    · rw [hc]; rfl
  · have := ok.uniq _ h1
    rw [hl] at this; cases this
end
section
variable {X : Cx} {E : XK}
/-- an element that knows the cell of y -/
def RawF (X : Cx) (y : Str) (elt : Expr) (te : TE) : Prop := ∀ (pins : List (Addr × Obj)) (s : Shared) (σ : L2.St) (H : Hp) (Q : VK) (b : Str) (tk : Tok), Inv X pins σ H s → RawC X y (.str b tk) s → tk ≠ 0 → tk < s.toks →
  te σ H Q → wpAny (model X.prog X.w) X.A (eval elt X.env) (EP X pins σ Q) X.xe s
def tCallF (sp : Sp) (E : XK) (z : Str) (i1 i2 i3 : Nat) : TE := fun σ H Q => ∃ b c v3, σ[i1]? = some (some (.str b)) ∧ σ[i2]? = some (some (.str c)) ∧ σ[i3]? = some (some v3) ∧ b.length + (b.length + 1) * z.length ≤ 16777216 ∧ (c == z) = false ∧ sp ([.str (Txt.replace b c z), v3] ++ []) H Q E
theorem rawF_call {k : Nat} {f : Addr} {fd : FuncData} {ps : List Str} {sp : Sp} {CX : CXT} {x x1 x2 x3 z : Str} (i1 i2 i3 : Nat) {j0 : Nat} {p p0 p1 p2 p3 p4 p5 pos : Pos} (F : FnOk X.prog X.w X.K X.mg X.base CX k f fd ps sp) (hr : Room k X.A) (hx : Passes CX X E) (hg : Gl X x) (hm : X.mg x = some (.ref f)) (hk : PySem.W.keepIn X.K (.ref f) = true) (hb : Binds X.K fd ps [])
    (h1 : X.N[i1]? = some x1 := by rfl) (v1 : Vis X.env.scope x1 := by first | exact Or.inl rfl | exact Or.inr (Or.inl rfl) | exact Or.inr (Or.inr rfl)) (h2 : X.N[i2]? = some x2 := by rfl) (v2 : Vis X.env.scope x2 := by first | exact Or.inl rfl | exact Or.inr (Or.inl rfl) | exact Or.inr (Or.inr rfl)) (kl : X.env.kindOf x2 = some .cell ∨ X.env.kindOf x2 = some .free := by first | exact Or.inl rfl | exact Or.inr rfl)
    (h3 : X.N[i3]? = some x3 := by rfl) (v3 : Vis X.env.scope x3 := by first | exact Or.inl rfl | exact Or.inr (Or.inl rfl) | exact Or.inr (Or.inr rfl))
    (hdb : (x == ("__debug__" : Str)) = false := by decide) (hd1 : (x1 == ("__debug__" : Str)) = false := by decide) (hc1 : (x1 == ("__classdict__" : Str)) = false := by decide) (hd2 : (x2 == ("__debug__" : Str)) = false := by decide) (hc2 : (x2 == ("__classdict__" : Str)) = false := by decide) (hd3 : (x3 == ("__debug__" : Str)) = false := by decide) (hc3 : (x3 == ("__classdict__" : Str)) = false := by decide)
    (he : starEach [.Call (.Attribute (.Name x1 p1) "replace" p3) [.Name x2 p2, .Constant (.str z) j0 p4] [] p5, .Name x3 p0] X.env = [(false, eval (.Call (.Attribute (.Name x1 p1) "replace" p3) [.Name x2 p2, .Constant (.str z) j0 p4] [] p5) X.env), (false, eval (.Name x3 p0) X.env)] := by rfl)
    (hst : starEach [.Name x2 p2, .Constant (.str z) j0 p4] X.env = [(false, eval (.Name x2 p2) X.env), (false, eval (.Constant (.str z) j0 p4) X.env)] := by rfl)
    (hbase : attributeBase (.Name x1 p1) "replace" X.env (eval (.Name x1 p1) X.env) = eval (.Name x1 p1) X.env := by rfl) (hline : (p3.endLine == p5.line) = true := by rfl) :
    RawF X x2 (.Call (.Name x p) [.Call (.Attribute (.Name x1 p1) "replace" p3) [.Name x2 p2, .Constant (.str z) j0 p4] [] p5, .Name x3 p0] [] pos) (tCallF sp E z i1 i2 i3) := by
  intro pins s σ H Q c0 tk I r t0 t1 hq
  obtain ⟨b, c, w3, e1, e2, e3, hz, hcz, q⟩ := hq
  have ec : c0 = c := by
    obtain ⟨m, hn, hl⟩ := id I.loc
    obtain ⟨u, ⟨t9, rfl⟩, l⟩ := hl i2 x2 _ h2 e2 v2
    obtain ⟨a, ea, oa, ha, hda⟩ := id r
    rcases l with ⟨kk, _⟩ | ⟨_, a2, ea2, oa2, ha2, hda2⟩
    · rcases kl with kl | kl
      · rw [kl] at kk; cases kk
      · rw [kl] at kk; cases kk
    · rw [ea] at ea2
      cases ea2
      rw [ha] at ha2
      cases ha2
      rw [hda] at hda2
      cases hda2
      rfl
  subst ec
  refine wpAny_Call_Name_kw (ld_glob I hg hm ?_ hdb)
  refine PySem.W.callWith_K (h₀ := X.base) I.ok.mod.kin hk ?_ (by rw [he]; rfl) (by rfl)
  rw [he]
  refine Calls.spliced_cons (PySem.Call_method2 hbase hst hline (raw_name h1 v1 I e1 (fun u1 r1 => ?_) hd1 hc1))
  obtain ⟨t', rfl⟩ := r1
  refine ⟨"str", _, PySem.F.plainAttrs_str, PySem.F.slot_str_replace, PySem.F.type_str_replace, typeIs_str _ _ _, (fun _ e => nomatch e), Calls.callWith_builtin rfl (Calls.evalArgs_plain (Calls.spliced_cons ?_))⟩
  refine rawC_load I.ok.kind kl r ?_ hd2 hc2
  refine Calls.spliced_cons (Calls.Constant_str ?_)
  refine Calls.spliced_nil ?_
  refine PySem.SC.replace t0 (Nat.ne_of_gt (Nat.lt_of_le_of_lt (Nat.zero_le _) t1)) (Nat.ne_of_lt t1) hcz hz fun t2 n2 => ?_
  refine Calls.spliced_cons (raw_name h3 v3 (I.tok n2) e3 (fun u3 r3 => ?_) hd3 hc3)
  refine Calls.spliced_nil ⟨(I.tok n2).kIn, ?_⟩
  exact run_fn F hr hb .nil hx (I.tok n2) (.cons (a := V.str (Txt.replace b c0 z)) ⟨t2, rfl⟩ (.cons r3 .nil)) q
theorem thnTn {α : Type} {n : Nat} {t : Sem α} {Q Q' : α → Shared → Prop} {M : Model} {A : Around} {E : Value → Shared → Prop} {s : Shared} (h : wpAny M A t Q (fun _ _ => False) s) (k : n ≤ s.toks) (hQ : ∀ a z, n ≤ z.toks → Q a z → Q' a z) : wpAny M A t Q' E s :=
  wpAny_mono (wpAny_toks_of k h) (fun a z x => hQ a z x.1 x.2) fun _ _ x => x.2.elim
theorem lcC_core {pins : List (Addr × Obj)} {s : Shared} {σ : L2.St} {H : Hp} {Q : VK} {elt : Expr} {scope : Scope} {own : List (Str × Nat)} {pos pos' py p1 : Pos} {te : TE} {use : Option (Value → Sem Unit)} {Qf : Value → Shared → Prop} {y0 y x1 b0 : Str} {tk : Tok} {i i1 : Nat}
    (raw : RawC X y0 (.str b0 tk) s) (t0 : tk ≠ 0) (t1 : tk < s.toks) (hc : X.calm = true) (nd : X.N.Nodup) (I : Inv X pins σ H s) (ok : BlkOk X.N X.env.scope scope own) (hi : X.N[i]? = some y) (h1 : X.N[i1]? = some x1) (v1 : Vis X.env.scope x1)
    (hy0 : scope.names.lookup y0 = some .free) (hfn : X.fn y0 = true)
    (hg : ∀ (s : Shared) (H : Hp) (C : Addr) (cl : List (Str × Addr)) (fp : List Addr), PG (X.blk s H scope (compEnvC scope cl C X.env) fp) (.Name y py) (gName i))
    (he : ∀ (s : Shared) (H : Hp) (C : Addr) (cl : List (Str × Addr)) (fp : List Addr), RawF (X.blk s H scope (compEnvC scope cl C X.env) fp) y0 elt te) (hs : ∀ x, foldedSetIterable (.Name x1 p1) X.env x = pure x)
    (h : tLc (iList X.K (tVar i1)) (gName i) tYes te (own.map (·.2)) σ H Q)
    (fin : ∀ D C z m H', Inv X pins σ H' z → Q (.ref D) H' → z.heap.Ns C m → FpOk X pins H' C → compPost (model X.prog X.w) X.A X.xe use Qf (.ref D) C (.ok .next) z)
    (hd1 : (x1 == ("__debug__" : Str)) = false := by decide) (hc1 : (x1 == ("__classdict__" : Str)) = false := by decide) :
    wpAny (model X.prog X.w) X.A (comprehension (.ListComp elt [⟨.Name y py, .Name x1 p1, [], 0⟩] scope pos) scope X.env pos' (newList []) false (eval (.Name x1 p1) X.env) use) Qf X.xe s := by
  obtain ⟨x, ex, a, e, ⟨xs, hq⟩, q⟩ := h
  subst e
  have caught : ∀ a ∈ scope.names, a.2 = .free → ∃ c, X.env.cells.lookup a.1 = some c := fun a ha e => by
    rcases ok.free a ha e with k | k
    · exact I.ok.has _ (.inl k)
    · exact I.ok.has _ (.inr k)
  refine wpAny_comprehension_free (use := use) rfl hs (closure_ok caught) ok.kind (fun a ha e => by rw [ok.uniq a ha, e]) (raw_name h1 v1 I ex (fun u1 r1 => ?_) hd1 hc1)
  cases r1
  obtain ⟨its, rv, p, hz⟩ := I.list hq
  suffices body : ∀ (o : Obj), (s.heap.push o).IsListIter s.heap.objs.size a 0 → wpAny (model X.prog X.w) X.A (newList []) (fun acc a3 =>
      wpAny (model X.prog X.w) X.A (newFunctionEnv scope X.env.globals (cloFrom X.env.cells scope.names []) [] X.env.qual none Value.none (some X.env)) (fun cenv a4 =>
        codeAny (model X.prog X.w) X.A (Code.compStart (elt.ListComp [⟨.Name y py, .Name x1 p1, [], 0⟩] scope pos) 0 (.ref s.heap.objs.size) acc { scope := relabel scope X.env, locals := cenv.locals, globals := cenv.globals, cells := cenv.cells, qual := cenv.qual, func := cenv.func, code := cenv.code, frame := cenv.frame, builtins := cenv.builtins })
          (compPost (model X.prog X.w) X.A X.xe use Qf acc cenv.locals) a4) X.xe a3) X.xe { s with heap := s.heap.push o } by
    exact wpAny_pyIter_list p.isList (body _ ⟨_, Heap.get?_push_size _ rfl, rfl, rfl⟩)
  intro o st0
  have itOk : FpOk X pins H s.heap.objs.size := I.fpOk (Nat.le_refl _) (I.hok.fresh (Nat.le_refl _))
  have Ia : Inv X pins σ H { s with heap := s.heap.push o } := I.kept (t' := s.toks) fun b ob e => Heap.get?_push_of_some _ e
  have ra : RawC X y0 (.str b0 tk) { s with heap := s.heap.push o } := raw.keeps fun b ob e => Heap.get?_push_of_some _ e
  generalize hit : s.heap.objs.size = it at st0 itOk ⊢
  generalize hsa : ({ s with heap := s.heap.push o } : Shared) = sa at Ia ra ⊢
  have sta : sa.heap.IsListIter it a 0 := by rw [← hsa]; exact st0
  have tka : sa.toks = s.toks := by rw [← hsa]
  have ita : it < sa.heap.objs.size := by
    rw [← hsa, ← hit]
    show _ < (s.heap.push o).objs.size
    rw [Heap.size_push]
    exact Nat.lt_succ_self _
  refine wpAny_newObj_type (newEnv_comp ?_) (by show 0 ≤ sizeLine; decide)
  generalize hDa : sa.heap.objs.size = Da
  have nD : H Da = none := Ia.hok.fresh (Nat.le_of_eq hDa)
  obtain ⟨W, ⟨m0, w0⟩, turn⟩ := q Da nD
  generalize hsb : ({ sa with heap := sa.heap.push { cls := .type "list", data := .seq ([] : List Value).toArray } } : Shared) = sb
  have Ib : Inv X pins σ (upd H Da (.lst [])) sb := by
    rw [← hsb]
    refine Ia.laid (t' := sa.toks) (fun b ob e => Heap.get?_push_of_some _ e) (Nat.le_of_eq hDa) ⟨Nat.zero_le _, [], 0, .nil, ?_⟩
    rw [← hDa]
    exact Heap.get?_push_size _ rfl
  have hb : sb.heap = sa.heap.push { cls := .type "list", data := .seq ([] : List Value).toArray } := by rw [← hsb]
  have rb : RawC X y0 (.str b0 tk) sb := ra.keeps fun b ob e => by rw [hb]; exact Heap.get?_push_of_some _ e
  have tkb : sb.toks = s.toks := by rw [← hsb]; exact tka
  have fpb : FpOk X pins (upd H Da (.lst [])) it := ⟨by rw [upd_ne (by rw [← hDa]; exact Nat.ne_of_lt ita)]; exact itOk.1, itOk.2⟩
  have itb : it < sb.heap.objs.size := by rw [hb, Heap.size_push]; exact Nat.lt_succ_of_lt ita
  have stb : sb.heap.IsListIter it a 0 := by
    obtain ⟨ob, e, r⟩ := sta
    exact ⟨ob, by rw [hb]; exact Heap.get?_push_of_some _ e, r⟩
  have Ic := block_start (fp := [it]) Ib ok nd (fun b hb => by rw [List.mem_singleton] at hb; rw [hb]; exact ⟨fpb, itb⟩)
  obtain ⟨cy, ey, oy, hoy, dy⟩ := rb
  have cellB := blk_cell Ib ok hy0 ey
  have rawE := he sb (upd H Da (.lst [])) sb.heap.objs.size (cellsFrom (sb.heap.objs.size + 1) scope.names (cloFrom X.env.cells scope.names [])) [it]
  have pg := hg sb (upd H Da (.lst [])) sb.heap.objs.size (cellsFrom (sb.heap.objs.size + 1) scope.names (cloFrom X.env.cells scope.names [])) [it]
  show codeAny _ _ (.compStart (.ListComp elt [⟨.Name y py, .Name x1 p1, [], 0⟩] scope pos) 0 (.ref it) (.ref Da) (compEnvC scope (cellsFrom (sb.heap.objs.size + 1) scope.names (cloFrom X.env.cells scope.names [])) sb.heap.objs.size X.env)) (compPost (model X.prog X.w) X.A X.xe use Qf (.ref Da) sb.heap.objs.size) { sb with heap := pushCells (sb.heap.push { cls := .type "dict", data := .dict #[] }) scope.names }
  generalize hce : compEnvC scope (cellsFrom (sb.heap.objs.size + 1) scope.names (cloFrom X.env.cells scope.names [])) sb.heap.objs.size X.env = ce at Ic rawE pg cellB ⊢
  have celoc : ce.locals = sb.heap.objs.size := by subst hce; rfl
  have nit0 := fpb.1
  have cyn : (upd H Da (.lst [])) cy = none := Ib.freeC y0 cy ey
  have cyf : cy ∉ frs X.stack := fun hb => by
    rcases List.mem_cons.mp (Ib.stkSub cy hb) with e1 | e1
    · exact Ib.cne y0 cy ey e1
    · obtain ⟨_, o1, ho1, _⟩ := Ib.ok.funs.mem e1
      exact Nat.lt_irrefl _ (Nat.lt_of_lt_of_le (Heap.lt_size ho1) (Ib.ok.cab y0 cy hfn ey))
  have cyi : cy ∉ [it] := fun hb => by
    rw [List.mem_singleton] at hb
    exact fpb.2.2.2.2.1 y0 cy ey hb
  generalize hHb : upd H Da (.lst []) = Hb at Ib Ic rawE pg w0 fpb nit0 cyn
  generalize hsc : ({ sb with heap := pushCells (sb.heap.push { cls := .type "dict", data := .dict #[] }) scope.names } : Shared) = sc at Ic ⊢
  have stc : sc.heap.IsListIter it a 0 := by
    obtain ⟨ob, e, r⟩ := stb
    exact ⟨ob, by rw [← hsc]; exact pushCells_keeps _ _ _ _ (Heap.get?_push_of_some _ e), r⟩
  have tkc : tk + 1 ≤ sc.toks := by rw [← hsc]; show tk + 1 ≤ sb.toks; rw [tkb]; exact t1
  have T : Turn X.prog X.w X.K (.Name y py) (Itl X.K a) [it] it (fun i h => h.IsListIter it a i) := turn_list a it
  have rawAll : ∀ {ps : List (Addr × Obj)} {σ' : L2.St} {H' : Hp} {z : Shared}, Inv (X.blk sb Hb scope ce [it]) ps σ' H' z → RawC (X.blk sb Hb scope ce [it]) y0 (.str b0 tk) z := fun I' =>
    ⟨cy, cellB, oy, I'.base.keep cy oy hoy cyn cyf cyi, dy⟩
  have stat : ∀ {σ' : L2.St} {H' : Hp} {z : Shared}, Inv (X.blk sb Hb scope ce [it]) [] σ' H' z → (∀ b ∈ [it], H' b = none) → ∀ b ∈ [it], FpOk (X.blk sb Hb scope ce [it]) [] H' b := fun {σ' H' z} I' hn b hb =>
    ⟨hn b hb, (I'.ok.exf b hb).1, I'.ok.exfs b hb, .inl hb, fun a c e => (I'.ok.exf b hb).2 a c e, fun p hp => absurd (show p ∈ ([] : List (Addr × Obj)) ++ [] from hp) (by simp)⟩
  have loop : codeAny (model X.prog X.w) X.A (.compLoop (.ListComp elt [⟨.Name y py, .Name x1 p1, [], 0⟩] scope pos) 0 (.ref it) (.ref Da) ce) (compPost (model X.prog X.w) X.A X.xe use Qf (.ref Da) sb.heap.objs.size) sc := by
    refine compLoop_any (fun n z => ∃ j H', Inv (X.blk sb Hb scope ce [it]) [] (wipe σ (own.map (·.2))) H' z ∧ z.heap.IsListIter it a j ∧ (∀ b ∈ [it], H' b = none) ∧ W j n H' ∧ tk + 1 ≤ z.toks) ?_ m0 ⟨0, Hb, Ic, stc, (fun b hb => by rw [List.mem_singleton] at hb; rw [hb]; exact nit0), w0, tkc⟩
    rintro n z5 ⟨j, H5, I5, st5, n5, w5, k5⟩
    rcases turn j n H5 w5 with ⟨stop, qq⟩ | ⟨go, Nx, hNx, step⟩
    · have td := T.done (X.blk sb Hb scope ce [it]) rfl rfl rfl hc j [] z5 _ H5 (fun _ _ => False) I5 (stat I5 n5) st5 stop
      refine thnF td fun r z6 ⟨hr, I6⟩ => ?_
      subst hr
      have I7 : Inv X pins σ H5 z6 := Ib.call' (ch := [it]) I6.os I6.base I6.hok I6.bare fun b hb => by
        rw [List.mem_singleton] at hb
        rw [hb]
        exact ⟨fpb.2.2.2.1, fpb.2.1, fpb.2.2.2.2.1, fpb.2.2.2.2.2⟩
      have nC : H5 sb.heap.objs.size = none := by
        have zz : H5 ce.locals = none := I6.free
        rwa [celoc] at zz
      obtain ⟨m, hn, _⟩ := I6.loc
      have hn : z6.heap.Ns ce.locals m := hn
      rw [celoc] at hn
      exact fin Da sb.heap.objs.size z6 m H5 I7 qq hn (Ib.fpOk (Nat.le_refl _) nC)
    · have ti := T.item (X.blk sb Hb scope ce [it]) rfl rfl rfl hc j [] z5 _ H5 (fun _ _ => False) I5 (stat I5 n5) st5 go
      refine thnTn ti k5 fun r z6 k6 ⟨u, hr, h6⟩ => ?_
      subst hr
      refine thnTn h6 k6 fun _ z7 k7 ⟨x, H7, I7, r7, y7, st7, n7⟩ => ?_
      have I7p := I7.pinned (stat I7 n7) (T.obj _ _ st7)
      refine thnTn (pg.run _ z7 _ H7 x u _ I7p r7 (step x H7 y7)) k7 fun _ z8 k8 ⟨σ8, H8, I8, hw8, q8⟩ => ?_
      refine wpAny_tests_nil ?_
      simp only [if_true]
      have q8 : te σ8 H8 _ := q8
      refine thnTn (rawE _ z8 σ8 H8 _ b0 tk I8 (rawAll I8) t0 k8 q8) k8 fun zv z10 k10 ⟨yv, H10, I10, r10, acc, hD10, hz10, nx⟩ => ?_
      refine wpAny_with_toks k10 (app_ok (X := X.blk sb Hb scope ce [it]) I10 hD10 hz10 r10 fun z11 I11 k11 => ?_)
      obtain ⟨m2, hm2, w2⟩ := hNx _ nx
      have pin7 : ∀ b ∈ [it], ∀ o, z7.heap.get? b = some o → z11.heap.get? b = some o ∧ (upd H10 Da (.lst (acc ++ [yv]))) b = none := fun b hb o e =>
        let z := I11.pin (b, o) (List.mem_append_right _ (List.mem_append_right _ (mem_pinsAt hb e)))
        ⟨z.1, z.2.1⟩
      have hl2 : (wipe σ (own.map (·.2))).length = σ8.length := by rw [← hw8, wipe_length]
      refine ⟨m2, hm2, j + 1, _, (I11.unpinned (pins := [])).weak hl2 (fun a v e => ?_), T.keep _ _ _ st7 fun b hb o e => (pin7 b hb o e).1, fun b hb => ?_, w2, k11⟩
      · rw [← hw8] at e
        exact (wipe_some e).1
      · obtain ⟨o, e, _⟩ := T.obj _ _ st7 b hb
        exact (pin7 b hb o e).2
  exact codeAny_compStart_list loop (T.self X.A 0 _ _ _ stc loop)
end
end NL

/-! the loop whose name is a cell that keeps its token; a def whose second parameter is a plain local -/
namespace NL
open PySem PySem.Spec L2
open PyProof.Rows hiding St
section
variable {X : Cx} {E : XK}
theorem rawf_lcC {elt : Expr} {scope : Scope} {own : List (Str × Nat)} {pos py p1 : Pos} {te : TE} {y0 y x1 : Str} {i i1 : Nat} (hc : X.calm = true) (nd : X.N.Nodup) (ok : BlkOk X.N X.env.scope scope own) (hi : X.N[i]? = some y) (h1 : X.N[i1]? = some x1) (v1 : Vis X.env.scope x1)
    (hy0 : scope.names.lookup y0 = some .free) (hfn : X.fn y0 = true)
    (hg : ∀ (s : Shared) (H : Hp) (C : Addr) (cl : List (Str × Addr)) (fp : List Addr), PG (X.blk s H scope (compEnvC scope cl C X.env) fp) (.Name y py) (gName i))
    (he : ∀ (s : Shared) (H : Hp) (C : Addr) (cl : List (Str × Addr)) (fp : List Addr), RawF (X.blk s H scope (compEnvC scope cl C X.env) fp) y0 elt te) (hs : ∀ x, foldedSetIterable (.Name x1 p1) X.env x = pure x := by intro _; rfl)
    (hd1 : (x1 == ("__debug__" : Str)) = false := by decide) (hc1 : (x1 == ("__classdict__" : Str)) = false := by decide) :
    RawF X y0 (.ListComp elt [⟨.Name y py, .Name x1 p1, [], 0⟩] scope pos) (tLc (iList X.K (tVar i1)) (gName i) tYes te (own.map (·.2))) := by
  intro pins s σ H Q b tk I r t0 t1 h
  rw [eval_ListComp]
  refine lcC_core r t0 t1 hc nd I ok hi h1 v1 hy0 hfn hg he hs h (fun D C z m H' I' q hn f => ⟨m, hn, fun h2 sb => ?_⟩) hd1 hc1
  obtain ⟨f0, f1, f2, f3, f4, f5⟩ := f
  exact ⟨.ref D, H', I'.turned (t' := z.toks) (fun b ob hb e => (sb.2 b hb).trans e) f0 f1 f3 f4 f5, rfl, q⟩
def RawT (X : Cx) (y : Str) (e : Expr) (t : TT) : Prop := ∀ (pins : List (Addr × Obj)) (s : Shared) (σ : L2.St) (H : Hp) (Q : Bool → Hp → Prop) (b : Str) (tk : Tok), Inv X pins σ H s → RawC X y (.str b tk) s → tk ≠ 0 → tk < s.toks →
  t σ H Q → wpAny (model X.prog X.w) X.A (isTrue e X.env (eval e X.env)) (TP X pins σ Q) X.xe s
def RawS (X : Cx) (y : Str) (st : Stmt) (t : TS) : Prop := ∀ (pins : List (Addr × Obj)) (s : Shared) (σ : L2.St) (H : Hp) (D : Ends) (b : Str) (tk : Tok), Inv X pins σ H s → RawC X y (.str b tk) s → tk ≠ 0 → tk < s.toks →
  t D σ H → wpAny (model X.prog X.w) X.A (exec st X.env) (SP X pins D) X.xe s
theorem rawf_callB {y x : Str} {p pos : Pos} {e : Expr} {te : TE} {id : String} {r : List V → Hp → VK → Prop} (hc : CallR X (.builtin id) r) (hg : Gl X x) (hm : X.mg x = none) (hv : bootBuiltins x = some (.builtin id)) (ha : RawF X y e te) (hn : x ≠ "__name__" := by decide) (hdb : (x == ("__debug__" : Str)) = false := by decide)
    (he : starEach [e] X.env = (false, eval e X.env) :: starEach [] X.env := by rfl) (hpl : (backTo pos (starEach [] X.env)).any (·.1) = false := by rfl) : RawF X y (.Call (.Name x p) [e] [] pos) (tCB r (tCons te tNil)) := by
  intro pins s σ H Q b tk I rw0 t0 t1 h
  refine wpAny_Call_Name_kw (ld_blt I hg hm hv ?_ hn hdb)
  have h1 : te σ H (fun x H1 => r [x] H1 Q) := h
  refine PyProof.Rows.callWith_builtin1 (Q := EP X pins σ Q) ?_ he hpl
  rw [he]
  show wpAny _ _ (spliced ((false, eval e X.env) :: backTo pos (starEach [] X.env))) _ _ s
  refine Calls.spliced_cons (thn (ha pins s σ H _ b tk I rw0 t0 t1 h1) fun v z ⟨x, H1, I1, r1, q1⟩ => ?_)
  exact Calls.spliced_nil (hc pins z σ H1 [x] [v] Q I1 (.cons r1 .nil) q1)
theorem rawt_truth {y : Str} {a : Expr} {ta : TE} (ha : RawF X y a ta) (he : ∀ whole, isTrue a X.env whole = (do let v ← whole; standAt a.pos; holding [v] (truthy v))) : RawT X y a (fun σ H Q => ta σ H fun x H' => ∃ k, TruV X.K x H' k ∧ Q k H') := by
  intro pins s σ H Q b tk I r t0 t1 h
  exact isTrue_plain (thn (ha pins s σ H _ b tk I r t0 t1 h) fun v z ⟨x, H1, I1, r1, q1⟩ => tru_ok pins z σ H1 x v Q I1 r1 q1) (he _)
theorem raws_if {y : Str} {c : Expr} {a b : List Stmt} {tc : TT} {t u : TS} {pos : Pos} (hc : RawT X y c tc) (ha : PSs X a t) (hb : PSs X b u) : RawS X y (.If c a b pos) (tIfS tc t u) := by
  intro pins s σ H D z0 tk I r t0 t1 h
  refine wpAny_If (thn (hc pins s σ H _ z0 tk I r t0 t1 h) fun d z ⟨H1, I1, q1⟩ => ?_)
  cases d with
  | true => exact ha.run pins z σ H1 D I1 q1
  | false => exact hb.run pins z σ H1 D I1 q1
theorem pst_forC {st : Stmt} {tb : TS} {y x1 : Str} {i i1 : Nat} {pos py p1 : Pos} (hp : PassesOwn (model X.prog X.w) X.A X.env X.xe) (hc : X.calm = true) (nd : X.N.Nodup) (hi : X.N[i]? = some y) (hk : X.env.scope.names.lookup y = some .cell) (hfn : X.fn y = true) (h1 : X.N[i1]? = some x1) (v1 : Vis X.env.scope x1) (hb : RawS X y st tb)
    (hs : ∀ x, foldedSetIterable (.Name x1 p1) X.env x = pure x := by intro _; rfl) (hd1 : (x1 == ("__debug__" : Str)) = false := by decide) (hc1 : (x1 == ("__classdict__" : Str)) = false := by decide) : PST X (.For (.Name y py) (.Name x1 p1) [st] [] pos) (tFor (iTxt i1) (gName i) tb) := by
  intro pins s σ H D t0 I h
  obtain ⟨x, ex, W, ⟨m0, w0⟩, turn⟩ := h
  refine wpAny_For (raw_name h1 v1 I ex (fun u1 r1 => ?_) hd1 hc1) hs
  obtain ⟨tx1, rfl⟩ := r1
  suffices body : ∀ (ty : String) (o : Obj), (ty = "str_ascii_iterator" ∨ ty = "str_iterator") → (s.heap.push o).IsStrIter s.heap.objs.size ty x tx1 0 → codeAny (model X.prog X.w) X.A (.forLoop (.Name y py) (.ref s.heap.objs.size) [st] [] X.env) (fun r s' => match r with | .ok f => SP X pins D f s' | .error e => cameBackBy (model X.prog X.w) X.A X.env X.xe e s') { s with heap := s.heap.push o } by
    cases ha : x.cps.all (· < 128)
    · exact wpAny_pyIter_wide ha (body _ _ (.inr rfl) ⟨_, Heap.get?_push_size _ rfl, rfl, rfl⟩)
    · exact wpAny_pyIter_ascii ha (body _ _ (.inl rfl) ⟨_, Heap.get?_push_size _ rfl, rfl, rfl⟩)
  intro ty o hty st0
  have itOk : FpOk X pins H s.heap.objs.size := I.fpOk (Nat.le_refl _) (I.hok.fresh (Nat.le_refl _))
  have Ia : Inv X pins σ H { s with heap := s.heap.push o } := I.kept (t' := s.toks) fun b ob e => Heap.get?_push_of_some _ e
  generalize hit : s.heap.objs.size = it at st0 itOk ⊢
  have k2 : 1 ≤ ({ s with heap := s.heap.push o } : Shared).toks := t0
  have sta : ({ s with heap := s.heap.push o } : Shared).heap.IsStrIter it ty x tx1 0 := st0
  generalize ({ s with heap := s.heap.push o } : Shared) = sa at Ia k2 sta ⊢
  have T : Turn X.prog X.w X.K (.Name y py) (Its x) [it] it (fun i h => h.IsStrIter it ty x tx1 i) := turn_str it x tx1 ty hty
  have stat : ∀ {H' : Hp}, (∀ b ∈ [it], H' b = none) → ∀ b ∈ [it], FpOk X pins H' b := fun hn b hb => ⟨hn b hb, by rw [List.mem_singleton] at hb; rw [hb]; exact itOk.2⟩
  refine codeAny_forLoop_any (fun n z => ∃ j σ' H', Inv X pins σ' H' z ∧ z.heap.IsStrIter it ty x tx1 j ∧ (∀ b ∈ [it], H' b = none) ∧ W j n σ' H' ∧ 1 ≤ z.toks) ?_ m0 ⟨0, σ, H, Ia, sta, (fun b hb => by rw [List.mem_singleton] at hb; rw [hb]; exact itOk.1), w0, k2⟩
  rintro n z3 ⟨j, σ3, Hc, Ic, stc, frc, wc, kc⟩
  rcases turn j n σ3 Hc wc with ⟨stop, qn⟩ | ⟨go, N, hN, step⟩
  · refine wpAny_passesOwn hp (thn (T.done X rfl rfl rfl hc j pins z3 σ3 Hc X.xe Ic (stat frc) stc stop) fun r z4 ⟨hr, I4⟩ => ?_)
    subst hr
    exact wpAny_execs_nil ⟨σ3, Hc, I4, qn⟩
  · have go : j < x.cps.size := go
    obtain ⟨c, hxc⟩ : ∃ c, x.cps[j]? = some c := ⟨_, Array.getElem?_eq_getElem go⟩
    refine wpAny_passesOwn hp (thnT1 kc (raw_item (tg := .Name y py) hty Ic (stat frc it (List.mem_singleton.mpr rfl)) stc hxc) fun r z4 k4 ⟨hr, h4⟩ => ?_)
    subst hr
    refine wpAny_passesOwn hp (thnT1 k4 h4 fun _ z5 k5 ⟨Ie, ste, k5e⟩ => ?_)
    have fre : ∀ b ∈ [it], Hc b = none := frc
    have Ip := Ie.pinned (stat fre) (T.obj _ _ ste)
    have sem := step (.str ⟨#[c]⟩) Hc ⟨rfl, c, hxc, rfl⟩
    have sem : tb _ (σ3.set i (some (.str ⟨#[c]⟩))) Hc := sem
    refine wpAny_passesOwn hp (wpAny_assign_Name (rawC_store (v := V.str ⟨#[c]⟩) Ip nd hi hk hfn ⟨_, rfl⟩ fun z6 If r6 k6 => ?_))
    refine wpAny_passesOwn hp (wpAny_execs_cons (thnT1 (by rw [k6]; exact k5) (hb _ z6 _ Hc _ ⟨#[c]⟩ z3.toks If r6 (Nat.ne_of_gt kc) (by rw [k6, k5e]; exact Nat.lt_succ_self _) sem) fun f z7 k7 q7 => ?_))
    have again : ∀ {σ7 : L2.St} {H7 : Hp}, Inv X (pins ++ pinsAt [it] z5.heap) σ7 H7 z7 → N σ7 H7 → ∃ m, m < n ∧ ∃ j σ' H', Inv X pins σ' H' z7 ∧ z7.heap.IsStrIter it ty x tx1 j ∧ (∀ b ∈ [it], H' b = none) ∧ W j m σ' H' ∧ 1 ≤ z7.toks := fun {σ7 H7} I7 n7 => by
      obtain ⟨m', hm, w7⟩ := hN σ7 H7 n7
      have kept : ∀ b ∈ [it], ∀ o, z5.heap.get? b = some o → z7.heap.get? b = some o ∧ H7 b = none := fun b hb o e =>
        let z := I7.pin (b, o) (List.mem_append_right _ (List.mem_append_right _ (mem_pinsAt hb e)))
        ⟨z.1, z.2.1⟩
      refine ⟨m', hm, j + 1, σ7, H7, I7.unpinned, T.keep _ _ _ ste fun b hb o e => (kept b hb o e).1, fun b hb => ?_, w7, k7⟩
      obtain ⟨o, e, _⟩ := T.obj _ _ ste b hb
      exact (kept b hb o e).2
    cases f with
    | next =>
      obtain ⟨σ7, H7, I7, n7⟩ := q7
      exact wpAny_execs_nil (again I7 n7)
    | cont =>
      obtain ⟨σ7, H7, I7, n7⟩ := q7
      exact again I7 n7
    | brk =>
      obtain ⟨σ7, H7, I7, q7⟩ := q7
      exact ⟨σ7, H7, I7.unpinned, q7⟩
    | ret v =>
      obtain ⟨x7, σ7, H7, I7, r7, q7⟩ := q7
      exact ⟨x7, σ7, H7, I7.unpinned, r7, q7⟩
end
/-! ### the words -/
section
variable [KC] {X : Cx} {E : XK}
structure EDR (X : Cx) (E : XK) (y : Str) (e : Expr) (w : WE) : Prop where
  ex : ∃ t, RawF X y e t ∧ ∀ (x : XS) (ρ : Ev) (Q : D → Prop), w x ρ Q → ∀ (F : Fr) (σ : L2.St) (H S : Hp) (Q' : VK), Rep F ρ σ H S → ExOk X.mg E x H S →
    (∀ d v H' S', Q d → Grow H S H' S' → Dat S' d v → Q' v H') → t σ H Q'
structure DFR (X : Cx) (E : XK) (y : Str) (e : Expr) (w : WL) : Prop where
  ex : ∃ t, RawF X y e t ∧ ∀ (x : XS) (ρ : Ev) (Q : List D → Prop), w x ρ Q → ∀ (F : Fr) (σ : L2.St) (H S : Hp) (Q' : VK), Rep F ρ σ H S → ExOk X.mg E x H S →
    (∀ xs p vs H' S', Q xs → Grow H S H' S' → H p = none → S' p = none → H' p = some (.lst vs) → Dats S' xs vs → Q' (.ref p) H') → t σ H Q'
structure TDR (X : Cx) (E : XK) (y : Str) (e : Expr) (w : WT) : Prop where
  ex : ∃ t, RawT X y e t ∧ ∀ (x : XS) (ρ : Ev) (Q : Bool → Prop), w x ρ Q → ∀ (F : Fr) (σ : L2.St) (H S : Hp) (Q' : Bool → Hp → Prop), Rep F ρ σ H S → ExOk X.mg E x H S →
    (∀ b H' S', Q b → Grow H S H' S' → Q' b H') → t σ H Q'
/-- the list at i1 -/
def wLsi (i1 : Nat) : WL := fun x ρ Q => match ρ[i1]? with
  | some (.fz (.lst b)) => Q b
  | _ => False
def wHoldF (sp : Spec) (z : Str) (i1 i2 i3 : Nat) : WE := fun x ρ Q => match ρ[i1]?, ρ[i2]?, ρ[i3]? with
  | some (.fz (.str b)), some (.fz (.str c)), some (.fz d3) => b.length + (b.length + 1) * z.length ≤ 16777216 ∧ (c == z) = false ∧ Ask sp [.str (Txt.replace b c z), d3] x (fun r => Q r.d) ⟨⟩
  | _, _, _ => False
theorem holdF_can {mg : Str → Option Value} {sp : Spec} {z : Str} {i1 i2 i3 : Nat} {σ : L2.St} {H : Hp} {Q' : VK} (h : canE mg E0 (wHoldF sp z i1 i2 i3) σ H Q') : tCallF (spOf mg sp) E0 z i1 i2 i3 σ H Q' := by
  obtain ⟨x, ρ, Q, F, S, hw, rp, ex, k⟩ := h
  unfold wHoldF at hw
  split at hw
  · rename_i b c d3 e1 e2 e3
    obtain ⟨hz, hcz, hw⟩ := hw
    obtain ⟨v1, s1, h1⟩ := rp.fz e1
    obtain ⟨v2, s2, h2⟩ := rp.fz e2
    obtain ⟨v3, s3, h3⟩ := rp.fz e3
    unfold Dat at h1 h2
    subst h1 h2
    refine ⟨b, c, v3, s1, s2, s3, hz, hcz, [.str (Txt.replace b c z), d3], S, x, _, ⟨rp.sh, rp.fg.tb⟩, ?_, hw, fun r v H2 S2 q2 g2 p2 => ?_, fun n C H2 S2 xn hC g2 => ex n C H2 S2 xn hC g2⟩
    · rw [List.append_nil]
      exact .cons (by unfold Dat; rfl) (.one h3)
    · obtain ⟨S3, g3, p3⟩ := p2.dat g2
      exact k _ _ H2 S3 q2 g3 p3
  · exact hw.elim
theorem df_lcC {sp : Spec} {z y0 y x1 : Str} {i1 j1 j2 i : Nat} {elt : Expr} {scope : Scope} {own : List (Str × Nat)} {vs : List Nat} {pos py p1 : Pos} (hc : X.calm = true) (nd : X.N.Nodup) (ok : BlkOk X.N X.env.scope scope own)
    (he : ∀ (s : Shared) (H : Hp) (C : Addr) (cl : List (Str × Addr)) (fp : List Addr), RawF (X.blk s H scope (compEnvC scope cl C X.env) fp) y0 elt (tCallF (spOf X.mg sp) E0 z j1 j2 i))
    (hi : X.N[i]? = some y := by rfl) (h1 : X.N[i1]? = some x1 := by rfl) (v1 : Vis X.env.scope x1 := by first | exact Or.inl rfl | exact Or.inr (Or.inl rfl) | exact Or.inr (Or.inr rfl))
    (hy0 : scope.names.lookup y0 = some .free := by rfl) (hfn : X.fn y0 = true := by rfl)
    (hy : ∀ (s : Shared) (H : Hp) (C : Addr) (cl : List (Str × Addr)) (fp : List Addr), (X.blk s H scope (compEnvC scope cl C X.env) fp).env.scope.names.lookup y = some .local := by intros; rfl)
    (hvs : own.map (·.2) = vs := by rfl) (his : i ∈ vs := by decide) (hs : ∀ x, foldedSetIterable (.Name x1 p1) X.env x = pure x := by intro _; rfl)
    (hd1 : (x1 == ("__debug__" : Str)) = false := by decide) (hc1 : (x1 == ("__classdict__" : Str)) = false := by decide) :
    DFR X E y0 (.ListComp elt [⟨.Name y py, .Name x1 p1, [], 0⟩] scope pos) (wLc (wLsi i1) (wgName i) wtYes (wHoldF sp z j1 j2 i) vs) := by
  subst hvs
  refine ⟨_, rawf_lcC hc nd ok hi h1 v1 hy0 hfn (fun s H C cl fp => pg_name nd hi (.inl (hy s H C cl fp)) (.inr (hy s H C cl fp))) he hs hd1 hc1, fun x ρ Q hw F σ H S Q' rp ex k => ?_⟩
  unfold wLc wLsi at hw
  split at hw
  · rename_i b e1
    obtain ⟨w1, s1, d1⟩ := rp.fz e1
    unfold Dat at d1
    obtain ⟨a, us, rfl, sa, du⟩ := d1
    refine ⟨_, s1, a, rfl, ⟨us, .of (rp.sh _ _ sa)⟩, fun D0 hD => ?_⟩
    have hJ : ItOk (Itl X.K a) S b := it_list (fun H5 e => .of (e _ _ sa)) du
    obtain ⟨W, w0, turn⟩ := lc_sound (tt := tYes) (mg := X.mg) (is := [i]) (vs := own.map (·.2)) (Q' := Q') (J := Itl X.K a) (by intro j hj; rw [List.mem_singleton] at hj; rw [hj]; exact his) rp (.refl rp.sh) hJ hD hw (fun ρ2 σ2 H S R R' h r k => k true H S h (.refl r.sh)) (fun xs ws H' S' q g h0 h1 h2 hd => k xs D0 ws H' S' q g h0 h1 h2 hd)
    refine ⟨W, w0, fun j m H2 w2 => ?_⟩
    rcases turn j m H2 w2 with t1 | ⟨go, Nx, hN, step⟩
    · exact .inl t1
    · refine .inr ⟨go, Nx, hN, fun x2 H3 y3 => ?_⟩
      obtain ⟨d, ρ3, Q3, F3, S3, a1, a2, a3, a4⟩ := step x2 H3 y3
      obtain ⟨b1, b2⟩ := a4 _ _ a1 (a2.set a3) fun us hu => wipe_set (hu i (by simp))
      refine ⟨b1, ?_⟩
      have b3 : canE X.mg E0 (wHoldF sp z j1 j2 i) _ H3 _ := b2
      exact holdF_can b3
  · exact hw.elim
variable {wa : WE} {wl : WL} {wt wu : WT} {ws wv : WS} {y : Str}
theorem ed_anyR {x : Str} {p pos : Pos} {e : Expr} {id : String} {g : List D → (D → Prop) → Prop} (hc : CalD X (.builtin id) g) (hg : Gl X x) (hm : X.mg x = none) (hv : bootBuiltins x = some (.builtin id)) (h : DFR X E y e wl) (hn : x ≠ "__name__" := by decide)
    (hdb : (x == ("__debug__" : Str)) = false := by decide) (he : starEach [e] X.env = (false, eval e X.env) :: starEach [] X.env := by rfl) (hpl : (backTo pos (starEach [] X.env)).any (·.1) = false := by rfl) :
    EDR X E y (.Call (.Name x p) [e] [] pos) (wB g (wCons (wNew wl) wNil)) := by
  obtain ⟨r, o, so⟩ := hc.ex
  obtain ⟨t, pt, s⟩ := h.ex
  refine ⟨_, rawf_callB o hg hm hv pt hn hdb he hpl, fun x ρ Q hw F σ H S Q' rp ex k => ?_⟩
  refine s x ρ _ hw F σ H S _ rp ex fun xs p vs H1 S1 q1 g1 a0 a1 a2 hd => ?_
  have g2 := g1.share a0 a1 a2
  have hb : BDats H1 (upd S1 p (.lst vs)) [.lst xs] [.ref p] := ⟨_, _, rfl, BDat.of g2.sh (by unfold Dat; exact ⟨p, vs, rfl, upd_same, Dats.mono (same_upd a1) _ _ hd⟩), rfl⟩
  exact so [.lst xs] Q q1 H1 (upd S1 p (.lst vs)) [.ref p] Q' g2.sh hb fun z y H3 S3 q3 g3 h3 => k z y H3 S3 q3 (g2.trans g3) h3
theorem td_valR {a : Expr} (ha : EDR X E y a wa) (he : ∀ whole, isTrue a X.env whole = (do let v ← whole; standAt a.pos; holding [v] (truthy v)) := by intro _; rfl) : TDR X E y a (wtVal wa) := by
  obtain ⟨ta, pa, sa⟩ := ha.ex
  refine ⟨_, rawt_truth pa he, fun x ρ Q hw F σ H S Q' rp ex k => ?_⟩
  refine sa x ρ _ hw F σ H S _ rp ex fun d u H1 S1 q1 g1 h1 => ?_
  obtain ⟨kb, e, q⟩ := trD_sound g1.sh (BDat.of g1.sh h1) q1
  exact ⟨kb, e, k kb H1 S1 q g1⟩
/-- for c in b: if t: return .. -- the test always false -/
def wForCell (i1 i : Nat) (wt : WT) : WS := fun q ρ => match ρ[i1]? with
  | some (.fz (.str b)) => i1 ≠ i ∧ (∀ c ∈ b.cps.toList, wt X0 (ρ.set i (.fz (.str ⟨#[c]⟩))) fun r => r = false) ∧ q.nx ρ ∧ ∀ c ∈ b.cps.toList, q.nx (ρ.set i (.fz (.str ⟨#[c]⟩)))
  | _ => False
theorem sd_forC {c : Expr} {p1 : List Stmt} {y x1 : Str} {pos py px pos2 : Pos} (i1 i : Nat) (xk : XOk X E) (hc : X.calm = true) (nd : X.N.Nodup) (ht : TDR X E y c wt) (ha : SDs X E p1 ws)
    (hi : X.N[i]? = some y := by rfl) (hk : X.env.scope.names.lookup y = some .cell := by rfl) (hfn : X.fn y = true := by rfl) (h1 : X.N[i1]? = some x1 := by rfl) (v1 : Vis X.env.scope x1 := by first | exact Or.inl rfl | exact Or.inr (Or.inl rfl) | exact Or.inr (Or.inr rfl))
    (hs : ∀ a, foldedSetIterable (.Name x1 px) X.env a = pure a := by intro _; rfl) (hd1 : (x1 == ("__debug__" : Str)) = false := by decide) (hc1 : (x1 == ("__classdict__" : Str)) = false := by decide) :
    SDT X E (.For (.Name y py) (.Name x1 px) [.If c p1 [] pos2] [] pos) (wForCell i1 i wt) := by
  obtain ⟨tc, pc, sc⟩ := ht.ex
  obtain ⟨ta, pa, _⟩ := ha.ex
  refine ⟨_, pst_forC xk.own hc nd hi hk hfn h1 v1 (raws_if pc pa pss_nil) hs hd1 hc1, fun q ρ hw F σ H S D rp o => ?_⟩
  unfold wForCell at hw
  split at hw
  · rename_i b e0
    obtain ⟨ne, hw, q0, q1⟩ := hw
    obtain ⟨w1, s1, d1⟩ := rp.fz e0
    unfold Dat at d1
    subst d1
    refine ⟨b, s1, ?_⟩
    let W : Nat → Nat → L2.St → Hp → Prop := fun n m σ2 H2 => m = b.cps.size - n ∧ n ≤ b.cps.size ∧ ∃ S2, Grow H S H2 S2 ∧ (σ2 = σ ∨ ∃ c ∈ b.cps.toList, σ2 = σ.set i (some (.str ⟨#[c]⟩)))
    refine ⟨W, ⟨b.cps.size, by simp, Nat.zero_le _, S, .refl rp.sh, .inl rfl⟩, ?_⟩
    rintro n m σ2 H2 ⟨rfl, hn, S2, g2, hσ⟩
    rcases Nat.lt_or_ge n b.cps.size with hlt | hge
    · refine .inr ⟨hlt, W (n + 1) (b.cps.size - (n + 1)), fun σ' H' h => ⟨_, by omega, h⟩, fun v H' yl => ?_⟩
      obtain ⟨rfl, c1, e1, rfl⟩ := yl
      have cm : c1 ∈ b.cps.toList := by
        rw [← Array.getElem?_toList] at e1
        exact List.mem_of_getElem? e1
      have hwt := hw _ cm
      have eσ : σ2.set i (some (.str ⟨#[c1]⟩)) = σ.set i (some (.str ⟨#[c1]⟩)) := by
        rcases hσ with rfl | ⟨_, _, rfl⟩
        · rfl
        · rw [List.set_set]
      show tIfS tc ta tNext _ (σ2.set i (some (.str ⟨#[c1]⟩))) H'
      rw [eσ]
      have r3 := (rp.grow g2).set (i := i) (d := .str ⟨#[c1]⟩) (v := .str ⟨#[c1]⟩) (by unfold Dat; rfl)
      refine sc X0 _ _ hwt F _ H' S2 _ r3 (fun n C H' S' h => h.elim) fun b1 H4 S4 hb g4 => ?_
      subst hb
      exact iteF ⟨rfl, hlt, S4, g2.trans g4, .inr ⟨c1, cm, rfl⟩⟩
    · have e : n = b.cps.size := by omega
      subst e
      refine .inl ⟨Nat.le_refl _, ?_⟩
      rcases hσ with rfl | ⟨c1, cm, rfl⟩
      · exact o.nx ρ _ H2 _ q0 (rp.grow g2)
      · exact o.nx _ _ H2 _ (q1 _ cm) ((rp.grow g2).set (by unfold Dat; rfl))
  · exact hw.elim
end
/-! ### a def whose first parameter is a cell, its second a plain local -/
section
variable {M : Model} {A : Around} {E : Value → Shared → Prop} {s₀ s : Shared} {m cm : Str → Option Value} {env : Env}
theorem bindT2 (f : Str × Value → PUnit → Sem (ForInStep PUnit)) (hf : ∀ n v u, f (n, v) u = (do storeName env n v; pure (.yield ⟨⟩))) (hk : env.scope.kind = .function) {n0 n : Str} {v0 v : Value} {r : List (Str × Value)} {Q : PUnit → Shared → Prop}
    (x : InCallC s₀ env.locals m env.cells cm s) (h0 : env.kindOf n0 = some .cell) (hc : (env.cells.lookup n0).isSome = true) (hl : env.kindOf n = some .local) (hr : ∀ y ∈ r, env.kindOf y.1 = some .local ∨ (env.kindOf y.1 = some .cell ∧ (env.cells.lookup y.1).isSome = true))
    (h : ∀ z, InCallC s₀ env.locals (bindL env.kindOf ((n0, v0) :: (n, v) :: r) m) env.cells (bindC env.kindOf ((n0, v0) :: (n, v) :: r) cm) z → 1 ≤ z.toks → Q ⟨⟩ z) : wpAny M A (forIn ((n0, v0) :: (n, v) :: r) ⟨⟩ f) Q E s := by
  rw [List.forIn_cons, hf]
  obtain ⟨c, hc⟩ := Option.isSome_iff_exists.mp hc
  have hnl : ¬ env.kindOf n0 = some .local := by rw [h0]; decide
  refine wpAny_bind (wpAny_bind (stCC x hk h0 hc fun z xz => wpAny_pure (bindT f hf hk xz hl hr fun w xw kw => h w ?_ kw)))
  unfold bindL bindC
  rw [if_neg hnl, if_neg hnl]
  exact xw
theorem newEnvT2 {scope : Scope} {globals : Addr} {n0 n : Str} {v0 v : Value} {r : List (Str × Value)} {qual : Str} {func : Option Addr} {code : Value} {builtins : Addr} {Q : Env → Shared → Prop} (hk : scope.kind = .function) (h0 : scope.names.lookup n0 = some .cell) (hl : scope.names.lookup n = some .local)
    (hkind : ∀ x ∈ r, scope.names.lookup x.1 = some .local ∨ (scope.names.lookup x.1 = some .cell ∧ ((cellsFrom (s.heap.objs.size + 1) scope.names []).lookup x.1).isSome = true))
    (hQ : ∀ env, env = newEnv scope s.heap.objs.size globals (cellsFrom (s.heap.objs.size + 1) scope.names []) qual func code none builtins →
      ∀ z, InCallC s env.locals (bindL env.kindOf ((n0, v0) :: (n, v) :: r) fun _ => none) env.cells (bindC env.kindOf ((n0, v0) :: (n, v) :: r) fun _ => none) z → 1 ≤ z.toks → Q env z) :
    wpAny M A (newFunctionEnv scope globals [] ((n0, v0) :: (n, v) :: r) qual func code none builtins) Q E s := by
  simp only [newFunctionEnv, Option.isSome_none, Bool.false_eq_true, if_false]
  refine wpAny_bind (wpAny_alloc ?_)
  refine wpAny_bind (wpAny_layCells _ (fun nm kd cs => by cases h1 : kd == NameKind.cell <;> simp [h1]) _ _ _ _ ?_)
  have ok := cellsFrom_ok scope.names (s.heap.push { cls := .type "frame", data := .dict #[] }) (s.heap.objs.size + 1) [] ⟨fun _ _ z => (nomatch z), List.Pairwise.nil⟩ (by rw [Heap.size_push]; exact Nat.le_refl _)
  rw [Heap.size_push] at ok
  rw [show ({ s with heap := s.heap.push { cls := .type "frame", data := .dict #[] } } : Shared).heap.objs.size = s.heap.objs.size + 1 from Heap.size_push ..]
  refine wpAny_bind (bindT2 (s₀ := s) (env := newEnv scope s.heap.objs.size globals (cellsFrom (s.heap.objs.size + 1) scope.names []) qual func code none builtins) (m := fun _ => none) (cm := fun _ => none) _ (fun _ _ _ => rfl) hk
    ⟨⟨⟨_, _, rfl⟩, (Heap.Ns.new s.heap (.type "frame")).keeps (pushCells_keeps _ _), fun b o e => pushCells_keeps _ _ b o (Heap.get?_push_of_some _ e), Nat.le_refl _⟩, fun k c hc => (ok.empty k c (mem_of_lookup hc)).1, ok.apart, fun k c z => (ok.empty k c z).2⟩ h0 (PySem.W.cellsFrom_some _ _ _ (.inl h0)) hl hkind fun z xz kz => wpAny_pure (hQ _ rfl z xz kz))
end
theorem fn_ofT3 {CX : CXT} {P : Program} {w : World} {K : PySem.W.Frag} {mg : Str → Option Value} {base : Heap} {k : Nat} {f : Addr} {name qual : Str} {params : Arguments} {body : List Stmt} {scope : Scope} {dV kV doc pm cdv ct oc : Value} {an od : Option Addr}
    {osl : Array (Option Value)} {N ps : List Str} {sp : Sp} {n0 n1 : Str} {pr : List Str} (lk : K.lookup f = some ⟨oc, od, .func (PySem.W.fnOf name qual params body scope dV kV doc pm an cdv ct), osl⟩) (hcd : PySem.W.codeIn K cdv qual = true) (S : FnScope N ps scope)
    (hps : ps = n0 :: n1 :: pr) (hl0 : scope.names.lookup n0 = some .cell) (hl1 : scope.names.lookup n1 = some .local) (len : ∀ vs H Q E, sp vs H Q E → vs.length = ps.length)
    (hbody : ∀ (A : Around) (outer : List Env) (s : Shared) (H : Hp) (vs : List V) (Q : VK) (E : XK), Room k (A.deeper (envOfC qual scope s.heap.objs.size f cdv)) → sp vs H Q E →
      ∃ t, PSsT (cxOf CX P w K mg base N qual scope f cdv A outer s H E) body t ∧ t { nx := fun _ H' => Q .non H', rt := Q } (L2.start N vs) H) :
    FnOk P w K mg base CX (k + 1) f (PySem.W.fnOf name qual params body scope dV kV doc pm an cdv ct) ps sp := by
  refine ⟨len, fun A outer s H args us vs Q E hr e0 hb r hsp => ?_⟩
  have hl := len _ _ _ _ hsp
  have inK : K.In s.heap := e0.mod.kin.keeps fun b o e => (e0.bs b o e).1
  have lim : s.heap.NoLimit := e0.mod.nolimit.keeps fun b o e => (e0.bs b o e).1
  obtain ⟨u0, u1, ur, rfl⟩ : ∃ u0 u1 ur, us = u0 :: u1 :: ur := by
    have := r.length
    rw [hl, hps] at this
    cases us with
    | nil => cases this
    | cons a b =>
      cases b with
      | nil => cases this
      | cons b c => exact ⟨a, b, c, rfl⟩
  have kinds : ∀ y ∈ pr.zip ur, scope.names.lookup y.1 = some .local ∨ (scope.names.lookup y.1 = some .cell ∧ ((cellsFrom (s.heap.objs.size + 1) scope.names []).lookup y.1).isSome = true) := fun ⟨n, v⟩ hy => by
    rcases S.par n (by rw [hps]; exact .tail _ (.tail _ (List.of_mem_zip hy).1)) with q | q
    · exact .inl q
    · exact .inr ⟨q, PySem.W.cellsFrom_some _ _ _ (.inl q)⟩
  refine codeAny_call_function hr.depth (inK _ _ lk) rfl S.co S.gen rfl (PySem.W.codeRec_of inK hcd) (hb _ _ _ _ ?_)
  have ez : ps.zip (u0 :: u1 :: ur) = (n0, u0) :: (n1, u1) :: pr.zip ur := by rw [hps]; rfl
  rw [ez]
  refine newEnvT2 S.kind hl0 hl1 kinds fun env he s1 x k1 => ?_
  rw [← ez] at x
  subst he
  refine ⟨lim.keeps x.toInCall.keep, codeAny_func ?_⟩
  obtain ⟨t, ht, hq⟩ := hbody A outer s H vs Q E (hr.deeper _) hsp
  have I : Inv (cxOf CX P w K mg base N qual scope f cdv A outer s H E) [] (L2.start N vs) H s1 := inv_start S hr.hd e0 hl r x
  refine wpAny_mono (ht [] s1 (L2.start N vs) H _ k1 I hq) (fun fl z hz => ?_) fun e z hz => hz
  have done : ∀ {σ' : L2.St} {H' : Hp} {v : V} {u : Value}, Inv (cxOf CX P w K mg base N qual scope f cdv A outer s H E) [] σ' H' z → RelV v u → Q v H' → CE outer P w H s Q u z :=
    fun {σ' H' v u} J rv q => ⟨v, H', J.os, J.bare, J.base, J.hok, rv, q⟩
  cases fl with
  | ret u =>
    obtain ⟨v, σ', H', J, rv, q⟩ := hz
    exact done J rv q
  | next =>
    obtain ⟨σ', H', J, q⟩ := hz
    exact done (v := V.non) (u := Value.none) J rfl q
  | brk =>
    obtain ⟨_, _, _, q⟩ := hz
    exact q.elim
  | cont =>
    obtain ⟨_, _, _, q⟩ := hz
    exact q.elim
section
variable [KC] {P : Program} {w : World} {K : PySem.W.Frag} {mg : Str → Option Value} {base : Heap}
theorem fn_okT2 {x qual : Str} {st : Stmt} {f : Addr} {fd : FuncData} {N ps pr : List Str} {n0 n1 : Str} {k : Nat} {sp : Spec} (F : Fun K x qual st f fd) (S : FnScope N ps (defScope st)) (hps : ps = n0 :: n1 :: pr) (hl0 : (defScope st).names.lookup n0 = some .cell) (hl1 : (defScope st).names.lookup n1 = some .local) (len : ∀ ds x R, sp ds x R → ds.length = ps.length)
    (hbody : ∀ (cdv : Value) (A : Around) (outer : List Env) (s : Shared) (H : Hp) (E : XK), Room k (A.deeper (envOfC qual (defScope st) s.heap.objs.size f cdv)) → XOk (cxF P w K mg base N qual (defScope st) f cdv A outer s H E) E →
      ∃ ws, SDsT (cxF P w K mg base N qual (defScope st) f cdv A outer s H E) E (defBody st) ws ∧ ∀ ds x R, sp ds x R → ws (endsOf R x) (startE N.length ds)) :
    FnOk P w K mg base (L2N.CX P w) (k + 1) f fd ps (spOf mg sp) := by
  have hpl : ps.length ≤ N.length := by
    have := congrArg List.length S.pre
    rw [List.length_take] at this
    omega
  obtain ⟨_, _, _, _, _, _, cdv, _, _, rfl, lk, hc⟩ := F.ex
  refine fn_ofT3 lk hc S hps hl0 hl1 (fun vs H Q E h => ?_) (fun A outer s H vs Q E hr h => ?_)
  · obtain ⟨ds, S, x, R, _, hd, hs, _⟩ := h
    rw [hd.len]
    exact len ds x R hs
  · obtain ⟨ds, S0, x, R, ⟨sh, tb⟩, hd, hs, k1, k2⟩ := h
    obtain ⟨ws, sd, pure⟩ := hbody cdv A outer s H E hr xk_fn
    obtain ⟨t, pt, so⟩ := sd.ex
    have hl : ds.length ≤ N.length := by rw [len ds x R hs]; exact hpl
    have gr : ∀ {H' S' : Hp}, FGrow { H0 := H, S0 := S0, M := fun _ => False } H' S' → Grow H S0 H' S' := fun f => ⟨⟨fun a o e n => f.hh a o (fun z => z) e n, f.al, f.ft⟩, f.ss, f.sh, f.nw⟩
    refine ⟨t, pt, so _ _ (pure ds x R hs) _ _ H S0 _ (rep_start sh tb hd hl) ⟨fun ρ σ H' S' q r => k1 _ _ H' S' q (gr r.fg) (show Dat S' .non .non from .n), fun r ρ v σ H' S' q rp p => k1 r v H' S' q (gr rp.fg) p, fun _ _ _ _ z => z.elim, fun _ _ _ _ z => z.elim, fun n C H' S' h1 h2 h3 => k2 n C H' S' h1 h2 (gr h3)⟩⟩
end
end NL

namespace NL
open PySem PySem.Spec L2
open PyProof.Rows hiding St
local macro_rules | `(tactic| walk_at "s") => `(tactic| try simp only [wVar, wOwn, wC, wOp, onBl, wtOn, wChain, trD, wtVal, wtNot, wAnd, wOr, wAndV, wOrV, wNotV, wIf, wNil, wCons, wTup, wLst, wUn, wNew, gAdd, gInt, gInt0, gMul, gCatF, gRepF, wOpF, gEq, gCmp, gInS, gIsN, isN, gIsB, gIdx, woNone, woSome, gSl, wSl, gSlF, wSlF, wB, wBF, gLen, gInt1, gInt2, gToInt, gListF, tyName, gIsT, wIsT, wCall, Rt.d, Cn.d, onNew, wCallF, wCallN, wCallNF, nlR, wgName, wgNil, wgCons, wgTup, wSeq, wSeqT, wSigns, wRng1, wRng2, wRng3, wRev, wEnum, wZip, wLc, wtYes, wsNil, wsBrk, wsCnt, wsExpr, wsRet, wsRetF, wsRetOwn, wsRetN, wIfS, wsSet, wsSetF, wsAsg, wsPar, wsAug, gApp, gExt, gPop0, gRev, wMut, wsSetIx, wFor, wsRaise, wSeqS, wFrz, wsCallM, wsPopAdd, endsOf, endM, endsM, startM, startE, wipeE, smallI, CPow, Br_true, Br_false, Br_not, rngD_eq, dC, dP, dI, ex_atI_map, atI0, atI1, atI2, kit1, kit2, kit3, kit4, kit5, kit6, kit7, kit8, kit9, kit10, kit11, kit12, kit13, kit14, kit15, kit16, kit17, kit18, kit19, kit20, kit21, kit22, kit23, kit24, kit25, kit26, kit27, kit28, kit29, kit30, kit31, kit32, kit33, kit34, kit35, sizeLine_eq, true_and, and_true, exists_eq_left', Option.some.injEq, List.map_cons, List.map_nil, List.length_cons, List.length_nil, List.length_map, List.length_append, List.cons_append, List.nil_append, List.set_cons_zero, List.set_cons_succ, List.getElem?_cons_zero, List.getElem?_cons_succ, List.getElem?_nil, Nat.reduceSub, Nat.reduceAdd, Nat.zero_add, Nat.sub_self, List.replicate_succ, List.replicate_zero, Bool.false_bne, Bool.true_bne, Bool.false_xor, Bool.true_xor, Bool.not_true, Bool.not_false, Bool.not_not, beq_self_eq_true, Bool.and_true, Bool.true_and, nl, nls, decide_true, decide_false, exists_eq_left, Bool.false_eq_true, Option.some_inj, Int.reduceToNat, Int.reducePow, Int.reduceMul, Int.reduceSub, Int.reduceAdd, Int.reduceNeg, Nat.reducePow, Nat.reduceLeDiff, Int.reduceLE, Int.reduceLT, Int.reduceAbs, Int.natAbs_neg, Nat.reduceLT, divW_eq, mulW_eq, Bool.or_true, Bool.true_or, cut_map, ← List.map_append, ← List.map_reverse, castN, eq_self, Int.reduceEq, deqC, deq_self, rep_map, nls_dP, wsAugIx, tx_cps, tx_len, tx_app, tx_one, tx_nil, tx_cut, tx_signs, tx_rep, lit_empty, tx_inj, wJoin, gJoin, wmCall, wmOpL, wmOpR, wmIxR, wmTup2, wsSetM, wsAppM, wForM, gSum, gAny, gAll, gLtD, gInT, gSorted, gAddT, wThaw, gMaxL, wTxt, wHoldR, wForThaw, wLsi, wHoldF, wForCell, wSortSet, wLenSet, onTx, gNotB, wMutF, gInI, wSortK, gKey, wsSetV])
def C_NAILS : D := .str "abcdefghijklmnopqrstuvwxyz"
def C_MOST : D := .int 10
--@ law_at
def SP_law_at : Spec := fun ds _ R => ∃ ns k, ds = [.scr ns, .int k] ∧ 0 ≤ k ∧ R (.val (.int (ns.getD k.toNat 0)))
theorem len_law_at (ds : List D) (x : XS) (R : Rt → Prop) (h : SP_law_at ds x R) : ds.length = ["_law_script", "_law_k"].length := by
  obtain ⟨ns, k, rfl, _⟩ := h; rfl
def W_law_at : WS :=
  (wSeqS (wIfS (wtOn (wOp (gCmp fun i j => decide (i < j)) (wVar 1) (wB gLen (wCons (wVar 0) wNil))))
  (wsRet (wOp gIdx (wVar 0) (wVar 1)))
  wsNil)
  (wsRet (wC (.int 0))))
theorem pure_law_at (ds : List D) (x : XS) (R : Rt → Prop) (h : SP_law_at ds x R) : W_law_at (endsOf R x) (startE 2 ds) := by
  obtain ⟨ns, k, rfl, hk, q⟩ := h
  simp only [W_law_at, wVar, wOwn, wC, wOp, onBl, wtOn, wChain, trD, wtVal, wtNot, wAnd, wOr, wAndV, wOrV, wNotV, wIf, wNil, wCons, wTup, wLst, wUn, wNew, gAdd, gInt, gInt0, gMul, gCatF, gRepF, wOpF, gEq, gCmp, gInS, gIsN, isN, gIsB, gIdx, woNone, woSome, gSl, wSl, gSlF, wSlF, wB, wBF, gLen, gInt1, gInt2, gToInt, gListF, tyName, gIsT, wIsT, wCall, Rt.d, Cn.d, onNew, wCallF, wCallN, wCallNF, nlR, wgName, wgNil, wgCons, wgTup, wSeq, wSeqT, wSigns, wRng1, wRng2, wRng3, wRev, wEnum, wZip, wLc, wtYes, wsNil, wsBrk, wsCnt, wsExpr, wsRet, wsRetF, wsRetOwn, wsRetN, wIfS, wsSet, wsSetF, wsAsg, wsPar, wsAug, gApp, gExt, gPop0, gRev, wMut, wsSetIx, wFor, wsRaise, wSeqS, wFrz, wsCallM, wsPopAdd, endsOf, endM, endsM, startM, startE, wipeE, smallI, CPow, Br_true, Br_false, Br_not, rngD_eq, dC, dP, dI, ex_atI_map, atI0, atI1, atI2, kit1, kit2, kit3, kit4, kit5, kit6, kit7, kit8, kit9, kit10, kit11, kit12, kit13, kit14, kit15, kit16, kit17, kit18, kit19, kit20, kit21, kit22, kit23, kit24, kit25, kit26, kit27, kit28, kit29, kit30, kit31, kit32, kit33, kit34, kit35, sizeLine_eq, true_and, and_true, exists_eq_left', Option.some.injEq, List.map_cons, List.map_nil, List.length_cons, List.length_nil, List.length_map, List.length_append, List.cons_append, List.nil_append, List.set_cons_zero, List.set_cons_succ, List.getElem?_cons_zero, List.getElem?_cons_succ, List.getElem?_nil, Nat.reduceSub, Nat.reduceAdd, Nat.zero_add, Nat.sub_self, List.replicate_succ, List.replicate_zero, Bool.false_bne, Bool.true_bne, Bool.false_xor, Bool.true_xor, Bool.not_true, Bool.not_false, Bool.not_not, beq_self_eq_true, Bool.and_true, Bool.true_and, nl, nls, decide_true, decide_false, exists_eq_left, Bool.false_eq_true, Option.some_inj, Int.reduceToNat, Int.reducePow, Int.reduceMul, Int.reduceSub, Int.reduceAdd, Int.reduceNeg, Nat.reducePow, Nat.reduceLeDiff, Int.reduceLE, Int.reduceLT, Int.reduceAbs, Int.natAbs_neg, Nat.reduceLT, divW_eq, mulW_eq, Bool.or_true, Bool.true_or, cut_map, ← List.map_append, ← List.map_reverse, castN, eq_self, Int.reduceEq, deqC, deq_self, rep_map, nls_dP, wsAugIx, tx_cps, tx_len, tx_app, tx_one, tx_nil, tx_cut, tx_signs, tx_rep, lit_empty, tx_inj, wJoin, gJoin, wmCall, wmOpL, wmOpR, wmIxR, wmTup2, wsSetM, wsAppM, wForM, gSum, gAny, gAll, gLtD, gInT, gSorted, gAddT, wThaw, gMaxL, wTxt, wHoldR, wForThaw, wLsi, wHoldF, wForCell, wSortSet, wLenSet, onTx, gNotB, wMutF, gInI, wSortK, gKey, wsSetV]
  refine Br.d (fun h => ?_) (fun h => ?_)
  · walk_at "s"
    refine ⟨_, atI_at (j := k.toNat) (by omega) (by omega), ?_⟩
    rwa [List.getD_eq_getElem?_getD, List.getElem?_eq_getElem (by omega)] at q
  · walk_at "s"
    rwa [List.getD_eq_getElem?_getD, List.getElem?_eq_none (by omega)] at q
--@ law_nails
def stepL : List Nat := [1, 3, 5, 7, 9, 11, 15, 17, 19, 21, 23, 25]
def nailsF (cell : Int) (many : Nat) : List Nat := (List.range many).map fun i : Nat => 97 + ((cell + i * ((stepL.getD (cell / 26 % 12).toNat 1 : Nat) : Int)) % 26).toNat
theorem step_ok : ∀ j : Nat, j < 12 → ∃ s : Nat, ([D.int 1, D.int 3, D.int 5, D.int 7, D.int 9, D.int 11, D.int 15, D.int 17, D.int 19, D.int 21, D.int 23, D.int 25])[j]? = some (D.int s) ∧ stepL.getD j 1 = s ∧ s ≤ 25 ∧ ∀ i : Nat, i < 26 → 0 < i → (i * s) % 26 ≠ 0 := by
  intro j hj
  have h : j = 0 ∨ j = 1 ∨ j = 2 ∨ j = 3 ∨ j = 4 ∨ j = 5 ∨ j = 6 ∨ j = 7 ∨ j = 8 ∨ j = 9 ∨ j = 10 ∨ j = 11 := by omega
  rcases h with rfl | rfl | rfl | rfl | rfl | rfl | rfl | rfl | rfl | rfl | rfl | rfl
  · exact ⟨1, rfl, rfl, by decide, by decide⟩
  · exact ⟨3, rfl, rfl, by decide, by decide⟩
  · exact ⟨5, rfl, rfl, by decide, by decide⟩
  · exact ⟨7, rfl, rfl, by decide, by decide⟩
  · exact ⟨9, rfl, rfl, by decide, by decide⟩
  · exact ⟨11, rfl, rfl, by decide, by decide⟩
  · exact ⟨15, rfl, rfl, by decide, by decide⟩
  · exact ⟨17, rfl, rfl, by decide, by decide⟩
  · exact ⟨19, rfl, rfl, by decide, by decide⟩
  · exact ⟨21, rfl, rfl, by decide, by decide⟩
  · exact ⟨23, rfl, rfl, by decide, by decide⟩
  · exact ⟨25, rfl, rfl, by decide, by decide⟩
theorem nailsF_len (cell : Int) (many : Nat) : (nailsF cell many).length = many := by simp [nailsF]
theorem nailsF_lt (cell : Int) (many : Nat) : Lt (nailsF cell many) := fun c hc => by
  obtain ⟨i, _, rfl⟩ := List.mem_map.mp hc
  omega
theorem nailsF_nodup (cell : Int) {many : Nat} (h26 : many ≤ 26) : (nailsF cell many).Nodup := by
  obtain ⟨j, hj⟩ : ∃ j : Nat, cell / 26 % 12 = j := ⟨_, (Int.toNat_of_nonneg (by omega)).symm⟩
  obtain ⟨s, _, eg, s1, s2⟩ := step_ok j (by omega)
  unfold nailsF
  rw [hj, Int.toNat_natCast, eg, List.nodup_iff_pairwise_ne, List.pairwise_map]
  refine List.Pairwise.imp_of_mem ?_ (List.pairwise_lt_range (n := many))
  intro i j hi hj hij z
  have hi' : i < many := by simpa using hi
  have hj' : j < many := by simpa using hj
  have hd := s2 (j - i) (by omega) (by omega)
  have e1 : (((j - i : Nat) : Int) * s) = (j : Int) * s - (i : Int) * s := by
    rw [← Int.sub_mul]
    congr 1
    omega
  have e2 : (((j - i) * s % 26 : Nat) : Int) = ((j : Int) * s - (i : Int) * s) % 26 := by
    rw [← e1]
    norm_cast
  omega
theorem nailsF_take (cell : Int) {m n : Nat} (h : m ≤ n) : (nailsF cell n).take m = nailsF cell m := by
  unfold nailsF
  rw [← List.map_take, List.take_range, Nat.min_eq_left h]
def SP_law_nails : Spec := fun ds _ R => ∃ (cell : Int) (many : Nat), ds = [.int cell, .int many] ∧ many ≤ 1000 ∧ ∀ l : List Nat, l.length = many → Lt l → (many ≤ 26 → l.Nodup) → l = nailsF cell many → R (.new (.lst (l.map dS)))
theorem len_law_nails (ds : List D) (x : XS) (R : Rt → Prop) (h : SP_law_nails ds x R) : ds.length = ["_law_cell", "_law_many"].length := by
  obtain ⟨c, m, rfl, _⟩ := h; rfl
def W_law_nails : WS :=
  (wSeqS (wsSet 2 (wC (.str "abcdefghijklmnopqrstuvwxyz")))
  (wSeqS (wsSet 3 (wOp gIdx (wNew (wLst (wCons (wC (.int 1)) (wCons (wC (.int 3)) (wCons (wC (.int 5)) (wCons (wC (.int 7)) (wCons (wC (.int 9)) (wCons (wC (.int 11)) (wCons (wC (.int 15)) (wCons (wC (.int 17)) (wCons (wC (.int 19)) (wCons (wC (.int 21)) (wCons (wC (.int 23)) (wCons (wC (.int 25)) wNil)))))))))))))) (wOp (gInt (fun _ j => 0 < j) fun i j => i % j) (wOp (gInt CDivW fun i j => i / j) (wVar 0) (wC (.int 26))) (wC (.int 12)))))
  (wsRetF (wLc (wRng1 (wVar 1)) (wgName 4) wtYes (wOp gIdx (wVar 2) (wOp (gInt (fun _ j => 0 < j) fun i j => i % j) (wOp gAdd (wVar 0) (wOp gMul (wVar 4) (wVar 3))) (wC (.int 26)))) [4]))))
theorem pure_law_nails (ds : List D) (x : XS) (R : Rt → Prop) (h : SP_law_nails ds x R) : W_law_nails (endsOf R x) (startE 5 ds) := by
  obtain ⟨cell, many, rfl, hm, q⟩ := h
  simp only [W_law_nails, wVar, wOwn, wC, wOp, onBl, wtOn, wChain, trD, wtVal, wtNot, wAnd, wOr, wAndV, wOrV, wNotV, wIf, wNil, wCons, wTup, wLst, wUn, wNew, gAdd, gInt, gInt0, gMul, gCatF, gRepF, wOpF, gEq, gCmp, gInS, gIsN, isN, gIsB, gIdx, woNone, woSome, gSl, wSl, gSlF, wSlF, wB, wBF, gLen, gInt1, gInt2, gToInt, gListF, tyName, gIsT, wIsT, wCall, Rt.d, Cn.d, onNew, wCallF, wCallN, wCallNF, nlR, wgName, wgNil, wgCons, wgTup, wSeq, wSeqT, wSigns, wRng1, wRng2, wRng3, wRev, wEnum, wZip, wLc, wtYes, wsNil, wsBrk, wsCnt, wsExpr, wsRet, wsRetF, wsRetOwn, wsRetN, wIfS, wsSet, wsSetF, wsAsg, wsPar, wsAug, gApp, gExt, gPop0, gRev, wMut, wsSetIx, wFor, wsRaise, wSeqS, wFrz, wsCallM, wsPopAdd, endsOf, endM, endsM, startM, startE, wipeE, smallI, CPow, Br_true, Br_false, Br_not, rngD_eq, dC, dP, dI, ex_atI_map, atI0, atI1, atI2, kit1, kit2, kit3, kit4, kit5, kit6, kit7, kit8, kit9, kit10, kit11, kit12, kit13, kit14, kit15, kit16, kit17, kit18, kit19, kit20, kit21, kit22, kit23, kit24, kit25, kit26, kit27, kit28, kit29, kit30, kit31, kit32, kit33, kit34, kit35, sizeLine_eq, true_and, and_true, exists_eq_left', Option.some.injEq, List.map_cons, List.map_nil, List.length_cons, List.length_nil, List.length_map, List.length_append, List.cons_append, List.nil_append, List.set_cons_zero, List.set_cons_succ, List.getElem?_cons_zero, List.getElem?_cons_succ, List.getElem?_nil, Nat.reduceSub, Nat.reduceAdd, Nat.zero_add, Nat.sub_self, List.replicate_succ, List.replicate_zero, Bool.false_bne, Bool.true_bne, Bool.false_xor, Bool.true_xor, Bool.not_true, Bool.not_false, Bool.not_not, beq_self_eq_true, Bool.and_true, Bool.true_and, nl, nls, decide_true, decide_false, exists_eq_left, Bool.false_eq_true, Option.some_inj, Int.reduceToNat, Int.reducePow, Int.reduceMul, Int.reduceSub, Int.reduceAdd, Int.reduceNeg, Nat.reducePow, Nat.reduceLeDiff, Int.reduceLE, Int.reduceLT, Int.reduceAbs, Int.natAbs_neg, Nat.reduceLT, divW_eq, mulW_eq, Bool.or_true, Bool.true_or, cut_map, ← List.map_append, ← List.map_reverse, castN, eq_self, Int.reduceEq, deqC, deq_self, rep_map, nls_dP, wsAugIx, tx_cps, tx_len, tx_app, tx_one, tx_nil, tx_cut, tx_signs, tx_rep, lit_empty, tx_inj, wJoin, gJoin, wmCall, wmOpL, wmOpR, wmIxR, wmTup2, wsSetM, wsAppM, wForM, gSum, gAny, gAll, gLtD, gInT, gSorted, gAddT, wThaw, gMaxL, wTxt, wHoldR, wForThaw, wLsi, wHoldF, wForCell, wSortSet, wLenSet, onTx, gNotB, wMutF, gInI, wSortK, gKey, wsSetV]
  obtain ⟨j, hj⟩ : ∃ j : Nat, cell / 26 % 12 = j := ⟨_, (Int.toNat_of_nonneg (by omega)).symm⟩
  obtain ⟨s, es, eg, s1, s2⟩ := step_ok j (by omega)
  refine ⟨.int s, by rw [hj]; exact atI_nat es, by omega, ?_⟩
  rw [rng1, List.map_map, Int.toNat_natCast]
  refine compL_map' (fun i : Nat => D.int i) (fun i : Nat => dS (97 + ((cell + i * s) % 26).toNat)) _ _ (fun k hk Q' hq => ?_) (by simp; exact Nat.le_trans hm (by decide)) ?_
  · have hk' : k < many := by simpa using hk
    walk_at "s"
    exact ⟨mulW (by omega) (by omega), az_sz, _, az_at (by omega) (by omega), hq⟩
  · have := q _ (nailsF_len cell many) (nailsF_lt cell many) (fun h => nailsF_nodup cell h) rfl
    unfold nailsF at this
    rw [hj, Int.toNat_natCast, eg] at this
    simpa [Function.comp_def] using this
--@ law_set
def SP_law_set : Spec := fun ds _ R => ∃ (m : Nat) (l : List Nat), ds = [.int m, .lst (l.map dS)] ∧ l.length ≤ 26 ∧ R (.val (dT (setM l m)))
theorem len_law_set (ds : List D) (x : XS) (R : Rt → Prop) (h : SP_law_set ds x R) : ds.length = ["_law_mask", "_law_some"].length := by
  obtain ⟨m, l, rfl, _⟩ := h; rfl
def W_law_set : WS :=
  (wsRet (wJoin (wC (.str "")) (wNew (wLc (wRng1 (wB gLen (wCons (wVar 1) wNil))) (wgName 2) (wtOn (wOp (gEq false) (wOp (gInt0 fun i j => Builtin.bitAnd i j) (wOp (gInt (fun _ j => 0 ≤ j) fun i j => i / 2 ^ j.toNat) (wVar 0) (wVar 2)) (wC (.int 1))) (wC (.int 1)))) (wOp gIdx (wVar 1) (wVar 2)) [2]))))
theorem pure_law_set (ds : List D) (x : XS) (R : Rt → Prop) (h : SP_law_set ds x R) : W_law_set (endsOf R x) (startE 3 ds) := by
  obtain ⟨m, l, rfl, hl, q⟩ := h
  simp only [W_law_set, wVar, wOwn, wC, wOp, onBl, wtOn, wChain, trD, wtVal, wtNot, wAnd, wOr, wAndV, wOrV, wNotV, wIf, wNil, wCons, wTup, wLst, wUn, wNew, gAdd, gInt, gInt0, gMul, gCatF, gRepF, wOpF, gEq, gCmp, gInS, gIsN, isN, gIsB, gIdx, woNone, woSome, gSl, wSl, gSlF, wSlF, wB, wBF, gLen, gInt1, gInt2, gToInt, gListF, tyName, gIsT, wIsT, wCall, Rt.d, Cn.d, onNew, wCallF, wCallN, wCallNF, nlR, wgName, wgNil, wgCons, wgTup, wSeq, wSeqT, wSigns, wRng1, wRng2, wRng3, wRev, wEnum, wZip, wLc, wtYes, wsNil, wsBrk, wsCnt, wsExpr, wsRet, wsRetF, wsRetOwn, wsRetN, wIfS, wsSet, wsSetF, wsAsg, wsPar, wsAug, gApp, gExt, gPop0, gRev, wMut, wsSetIx, wFor, wsRaise, wSeqS, wFrz, wsCallM, wsPopAdd, endsOf, endM, endsM, startM, startE, wipeE, smallI, CPow, Br_true, Br_false, Br_not, rngD_eq, dC, dP, dI, ex_atI_map, atI0, atI1, atI2, kit1, kit2, kit3, kit4, kit5, kit6, kit7, kit8, kit9, kit10, kit11, kit12, kit13, kit14, kit15, kit16, kit17, kit18, kit19, kit20, kit21, kit22, kit23, kit24, kit25, kit26, kit27, kit28, kit29, kit30, kit31, kit32, kit33, kit34, kit35, sizeLine_eq, true_and, and_true, exists_eq_left', Option.some.injEq, List.map_cons, List.map_nil, List.length_cons, List.length_nil, List.length_map, List.length_append, List.cons_append, List.nil_append, List.set_cons_zero, List.set_cons_succ, List.getElem?_cons_zero, List.getElem?_cons_succ, List.getElem?_nil, Nat.reduceSub, Nat.reduceAdd, Nat.zero_add, Nat.sub_self, List.replicate_succ, List.replicate_zero, Bool.false_bne, Bool.true_bne, Bool.false_xor, Bool.true_xor, Bool.not_true, Bool.not_false, Bool.not_not, beq_self_eq_true, Bool.and_true, Bool.true_and, nl, nls, decide_true, decide_false, exists_eq_left, Bool.false_eq_true, Option.some_inj, Int.reduceToNat, Int.reducePow, Int.reduceMul, Int.reduceSub, Int.reduceAdd, Int.reduceNeg, Nat.reducePow, Nat.reduceLeDiff, Int.reduceLE, Int.reduceLT, Int.reduceAbs, Int.natAbs_neg, Nat.reduceLT, divW_eq, mulW_eq, Bool.or_true, Bool.true_or, cut_map, ← List.map_append, ← List.map_reverse, castN, eq_self, Int.reduceEq, deqC, deq_self, rep_map, nls_dP, wsAugIx, tx_cps, tx_len, tx_app, tx_one, tx_nil, tx_cut, tx_signs, tx_rep, lit_empty, tx_inj, wJoin, gJoin, wmCall, wmOpL, wmOpR, wmIxR, wmTup2, wsSetM, wsAppM, wForM, gSum, gAny, gAll, gLtD, gInT, gSorted, gAddT, wThaw, gMaxL, wTxt, wHoldR, wForThaw, wLsi, wHoldF, wForCell, wSortSet, wLenSet, onTx, gNotB, wMutF, gInI, wSortK, gKey, wsSetV]
  refine ⟨⟨by omega, by omega⟩, ?_⟩
  rw [Int.toNat_natCast, rngN]
  refine compL_filter (fun i : Nat => D.int i) (fun i => D.str (tx [l.getD i 97])) (fun i => m.testBit i) _ _ (fun i hi Q' hq => ?_) ?_ ?_
  rotate_left
  · rw [List.length_nil, List.length_range, sizeLine_eq]; omega
  rotate_left
  · have hi' := List.mem_range.mp hi
    walk_at "s"
    refine ⟨by omega, ?_⟩
    have hb := bit_at m i
    have e : decide (Builtin.bitAnd ((m : Int) / 2 ^ (i : Int).toNat) 1 = 1) = m.testBit i := by
      rw [Int.toNat_natCast, hb]
      cases m.testBit i <;> simp
    have e' : decide (Builtin.bitAnd ((m : Int) / 2 ^ i) 1 = 1) = m.testBit i := by
      rw [hb]
      cases m.testBit i <;> simp
    have hq := hq
    rw [← e'] at hq
    refine hq _ fun Q2 h2 => ?_
    walk_at "s"
    refine ⟨l[i], atI_at (j := i) rfl hi', ?_⟩
    rw [List.getD_eq_getElem?_getD, List.getElem?_eq_getElem hi'] at h2
    exact h2
  · rw [List.nil_append]
    refine ⟨(setM l m).map fun c => tx [c], by simp [setM, Function.comp_def], ?_, ?_⟩
    · rw [ones_sum]
      have := (setM_sublist l m).length_le
      simp only [List.length_map]
      omega
    · rw [ones_join]
      exact q
--@ law_stir
def SP_law_stir : Spec := fun ds _ R => ∃ cell k : Int, ds = [.int cell, .int k] ∧ 0 ≤ k ∧ k ≤ 100000 ∧ ∀ v : Int, 0 ≤ v → v < 2147483563 → R (.val (.int v))
theorem len_law_stir (ds : List D) (x : XS) (R : Rt → Prop) (h : SP_law_stir ds x R) : ds.length = ["_law_cell", "_law_k"].length := by
  obtain ⟨c, k, rfl, _⟩ := h; rfl
def W_law_stir : WS :=
  (wSeqS (wsSet 2 (wOp (gInt (fun _ j => 0 < j) fun i j => i % j) (wOp gAdd (wOp gAdd (wOp gAdd (wOp (gInt (fun _ j => 0 < j) fun i j => i % j) (wVar 0) (wC (.int 2147483629))) (wOp gMul (wC (.int 7919)) (wVar 1))) (wOp gMul (wVar 1) (wVar 1))) (wC (.int 11))) (wC (.int 2147483629))))
  (wSeqS (wsSet 2 (wOp (gInt (fun _ j => 0 < j) fun i j => i % j) (wOp gMul (wVar 2) (wVar 2)) (wC (.int 2147483587))))
  (wsRet (wOp (gInt CDivW fun i j => i / j) (wOp (gInt (fun _ j => 0 < j) fun i j => i % j) (wOp gAdd (wOp gMul (wVar 2) (wC (.int 48271))) (wOp gMul (wC (.int 31)) (wVar 1))) (wC (.int 2147483563))) (wC (.int 13))))))
theorem pure_law_stir (ds : List D) (x : XS) (R : Rt → Prop) (h : SP_law_stir ds x R) : W_law_stir (endsOf R x) (startE 3 ds) := by
  obtain ⟨cell, k, rfl, hk, hk2, q⟩ := h
  have kk : 0 ≤ k * k ∧ k * k ≤ 10000000000 := ⟨Int.mul_nonneg hk hk, Int.mul_le_mul hk2 hk2 hk (by omega)⟩
  simp only [W_law_stir, wVar, wOwn, wC, wOp, onBl, wtOn, wChain, trD, wtVal, wtNot, wAnd, wOr, wAndV, wOrV, wNotV, wIf, wNil, wCons, wTup, wLst, wUn, wNew, gAdd, gInt, gInt0, gMul, gCatF, gRepF, wOpF, gEq, gCmp, gInS, gIsN, isN, gIsB, gIdx, woNone, woSome, gSl, wSl, gSlF, wSlF, wB, wBF, gLen, gInt1, gInt2, gToInt, gListF, tyName, gIsT, wIsT, wCall, Rt.d, Cn.d, onNew, wCallF, wCallN, wCallNF, nlR, wgName, wgNil, wgCons, wgTup, wSeq, wSeqT, wSigns, wRng1, wRng2, wRng3, wRev, wEnum, wZip, wLc, wtYes, wsNil, wsBrk, wsCnt, wsExpr, wsRet, wsRetF, wsRetOwn, wsRetN, wIfS, wsSet, wsSetF, wsAsg, wsPar, wsAug, gApp, gExt, gPop0, gRev, wMut, wsSetIx, wFor, wsRaise, wSeqS, wFrz, wsCallM, wsPopAdd, endsOf, endM, endsM, startM, startE, wipeE, smallI, CPow, Br_true, Br_false, Br_not, rngD_eq, dC, dP, dI, ex_atI_map, atI0, atI1, atI2, kit1, kit2, kit3, kit4, kit5, kit6, kit7, kit8, kit9, kit10, kit11, kit12, kit13, kit14, kit15, kit16, kit17, kit18, kit19, kit20, kit21, kit22, kit23, kit24, kit25, kit26, kit27, kit28, kit29, kit30, kit31, kit32, kit33, kit34, kit35, sizeLine_eq, true_and, and_true, exists_eq_left', Option.some.injEq, List.map_cons, List.map_nil, List.length_cons, List.length_nil, List.length_map, List.length_append, List.cons_append, List.nil_append, List.set_cons_zero, List.set_cons_succ, List.getElem?_cons_zero, List.getElem?_cons_succ, List.getElem?_nil, Nat.reduceSub, Nat.reduceAdd, Nat.zero_add, Nat.sub_self, List.replicate_succ, List.replicate_zero, Bool.false_bne, Bool.true_bne, Bool.false_xor, Bool.true_xor, Bool.not_true, Bool.not_false, Bool.not_not, beq_self_eq_true, Bool.and_true, Bool.true_and, nl, nls, decide_true, decide_false, exists_eq_left, Bool.false_eq_true, Option.some_inj, Int.reduceToNat, Int.reducePow, Int.reduceMul, Int.reduceSub, Int.reduceAdd, Int.reduceNeg, Nat.reducePow, Nat.reduceLeDiff, Int.reduceLE, Int.reduceLT, Int.reduceAbs, Int.natAbs_neg, Nat.reduceLT, divW_eq, mulW_eq, Bool.or_true, Bool.true_or, cut_map, ← List.map_append, ← List.map_reverse, castN, eq_self, Int.reduceEq, deqC, deq_self, rep_map, nls_dP, wsAugIx, tx_cps, tx_len, tx_app, tx_one, tx_nil, tx_cut, tx_signs, tx_rep, lit_empty, tx_inj, wJoin, gJoin, wmCall, wmOpL, wmOpR, wmIxR, wmTup2, wsSetM, wsAppM, wForM, gSum, gAny, gAll, gLtD, gInT, gSorted, gAddT, wThaw, gMaxL, wTxt, wHoldR, wForThaw, wLsi, wHoldF, wForCell, wSortSet, wLenSet, onTx, gNotB, wMutF, gInI, wSortK, gKey, wsSetV]
  have a0 : 0 ≤ (cell % 2147483629 + 7919 * k + k * k + 11) % 2147483629 := Int.emod_nonneg _ (by decide)
  have a1 : (cell % 2147483629 + 7919 * k + k * k + 11) % 2147483629 < 2147483629 := Int.emod_lt_of_pos _ (by decide)
  refine ⟨mulW (by omega) (by omega), mulW (by omega) (by omega), ?_⟩
  generalize (cell % 2147483629 + 7919 * k + k * k + 11) % 2147483629 = v at a0 a1 ⊢
  have b0 : 0 ≤ v * v % 2147483587 := Int.emod_nonneg _ (by decide)
  have b1 : v * v % 2147483587 < 2147483587 := Int.emod_lt_of_pos _ (by decide)
  refine ⟨mulW (by omega) (by omega), ?_⟩
  generalize v * v % 2147483587 = w at b0 b1 ⊢
  refine ⟨mulW (by omega) (by omega), mulW (by omega) (by omega), q _ (by omega) (by omega)⟩
--@ law_family
def SP_law_family : Spec := fun ds _ R => ∃ (ns : List Int) (l : List Nat), ds = [.scr ns, .lst (l.map dS)] ∧ az l = l ∧ 1 ≤ l.length ∧ l.length ≤ 10 ∧ ∀ F : List (List Nat), F.length ≤ 13 → (∀ t ∈ F, SoN (az l) t) → R (.new (.lst (F.map dT)))
theorem len_law_family (ds : List D) (x : XS) (R : Rt → Prop) (h : SP_law_family ds x R) : ds.length = ["_law_script", "_law_some"].length := by
  obtain ⟨a, b, rfl, _⟩ := h; rfl
def W_law_family_5_0_0 : WS :=
  (wSeqS (wsSet 7 (wCall SP_law_set (wCons (wOp (gInt (fun _ j => 0 < j) fun i j => i % j) (wVar 4) (wOp (gInt CPow fun i j => i * 2 ^ j.toNat) (wC (.int 1)) (wB gLen (wCons (wVar 1) wNil)))) (wCons (wVar 1) wNil))))
  (wsSet 4 (wOp (gInt CDivW fun i j => i / j) (wVar 4) (wOp (gInt CPow fun i j => i * 2 ^ j.toNat) (wC (.int 1)) (wB gLen (wCons (wVar 1) wNil))))))
def W_law_family_5_0e_0 : WS :=
  (wSeqS (wsSet 8 (wCall SP_law_stir (wCons (wCall SP_law_at (wCons (wVar 0) (wCons (wOp gAdd (wC (.int 3)) (wVar 6)) wNil))) (wCons (wVar 6) wNil))))
  (wSeqS (wsSetF 9 (wLc (wSeqT (wTup (wCons (wC (.int 1)) (wCons (wC (.int 11)) (wCons (wC (.int 131)) (wCons (wC (.int 1009)) wNil)))))) (wgName 10) wtYes (wOp gIdx (wVar 1) (wOp (gInt (fun _ j => 0 < j) fun i j => i % j) (wOp (gInt CDivW fun i j => i / j) (wVar 8) (wVar 10)) (wB gLen (wCons (wVar 1) wNil)))) [10]))
  (wFrz 9 (wsSet 7 (wJoin (wC (.str "")) (wNew (wSortSet (wSl (wVar 9) woNone (woSome (wOp gAdd (wC (.int 2)) (wOp (gInt (fun _ j => 0 < j) fun i j => i % j) (wOp (gInt CDivW fun i j => i / j) (wVar 8) (wC (.int 10007))) (wC (.int 3)))))))))))))
def W_law_family_5_1 : WS :=
  (wIfS (wOr (wtOn (wOp (gEq true) (wVar 7) (wC (.str "")))) (wtOn (wOp (gEq false) (wOp (gInt (fun _ j => 0 < j) fun i j => i % j) (wOp (gInt CDivW fun i j => i / j) (wCall SP_law_at (wCons (wVar 0) (wCons (wC (.int 1)) wNil))) (wC (.int 6))) (wC (.int 8))) (wC (.int 1)))))
  (wMut 2 gApp (wCons (wVar 7) wNil))
  wsNil)
def W_law_family_5 : WS :=
  (wSeqS (wFor (wRng1 (wVar 5)) (wgName 6)
  (wSeqS (wIfS (wAnd (wtOn (wOp (gCmp fun i j => decide (i < j)) (wB gLen (wCons (wVar 1) wNil)) (wC (.int 10)))) (wtNot (wtOn (wChain (gCmp fun i j => decide (i < j)) (gCmp fun i j => decide (i < j)) (wUn (fun i => -i) (wOp (gInt CPow fun i j => i ^ j.toNat) (wC (.int 10)) (wC (.int 18)))) (wVar 3) (wOp (gInt CPow fun i j => i ^ j.toNat) (wC (.int 10)) (wC (.int 18)))))))
  W_law_family_5_0_0
  W_law_family_5_0e_0)
  W_law_family_5_1))
  (wsRetOwn 2))
def W_law_family : WS :=
  (wSeqS (wsSetF 2 (wLst wNil))
  (wSeqS (wsSet 3 (wCall SP_law_at (wCons (wVar 0) (wCons (wC (.int 2)) wNil))))
  (wSeqS (wsSet 4 (wOp (gInt CDivW fun i j => i / j) (wVar 3) (wC (.int 26))))
  (wSeqS (wsSet 5 (wOp (gInt (fun _ j => 0 < j) fun i j => i % j) (wOp (gInt CDivW fun i j => i / j) (wVar 3) (wC (.int 2))) (wC (.int 13))))
  (wSeqS (wIfS (wtOn (wOp (gCmp fun i j => decide (j < i)) (wB gLen (wCons (wVar 1) wNil)) (wC (.int 6))))
  (wsSet 5 (wB (gInt2 fun i j => if j < i then j else i) (wCons (wVar 5) (wCons (wC (.int 3)) wNil))))
  wsNil)
  W_law_family_5)))))
theorem fam_end {q : DEnds} {ns : List Int} {l one : List Nat} {F : List (List Nat)} {s3 s4 s5 s6 s8 s9 s10 : Sl} (hF : F.length < 1000) (q1 : ∀ G, (G = F ∨ G = F ++ [one]) → q.nx [.fz (.scr ns), .fz (.lst (l.map dS)), .own false (.lst (G.map dT)), s3, s4, s5, s6, .fz (dT one), s8, s9, s10]) :
    W_law_family_5_1 q [.fz (.scr ns), .fz (.lst (l.map dS)), .own false (.lst (F.map dT)), s3, s4, s5, s6, .fz (dT one), s8, s9, s10] := by
  simp only [W_law_family_5_1, wVar, wOwn, wC, wOp, onBl, wtOn, wChain, trD, wtVal, wtNot, wAnd, wOr, wAndV, wOrV, wNotV, wIf, wNil, wCons, wTup, wLst, wUn, wNew, gAdd, gInt, gInt0, gMul, gCatF, gRepF, wOpF, gEq, gCmp, gInS, gIsN, isN, gIsB, gIdx, woNone, woSome, gSl, wSl, gSlF, wSlF, wB, wBF, gLen, gInt1, gInt2, gToInt, gListF, tyName, gIsT, wIsT, wCall, Rt.d, Cn.d, onNew, wCallF, wCallN, wCallNF, nlR, wgName, wgNil, wgCons, wgTup, wSeq, wSeqT, wSigns, wRng1, wRng2, wRng3, wRev, wEnum, wZip, wLc, wtYes, wsNil, wsBrk, wsCnt, wsExpr, wsRet, wsRetF, wsRetOwn, wsRetN, wIfS, wsSet, wsSetF, wsAsg, wsPar, wsAug, gApp, gExt, gPop0, gRev, wMut, wsSetIx, wFor, wsRaise, wSeqS, wFrz, wsCallM, wsPopAdd, endsOf, endM, endsM, startM, startE, wipeE, smallI, CPow, Br_true, Br_false, Br_not, rngD_eq, dC, dP, dI, ex_atI_map, atI0, atI1, atI2, kit1, kit2, kit3, kit4, kit5, kit6, kit7, kit8, kit9, kit10, kit11, kit12, kit13, kit14, kit15, kit16, kit17, kit18, kit19, kit20, kit21, kit22, kit23, kit24, kit25, kit26, kit27, kit28, kit29, kit30, kit31, kit32, kit33, kit34, kit35, sizeLine_eq, true_and, and_true, exists_eq_left', Option.some.injEq, List.map_cons, List.map_nil, List.length_cons, List.length_nil, List.length_map, List.length_append, List.cons_append, List.nil_append, List.set_cons_zero, List.set_cons_succ, List.getElem?_cons_zero, List.getElem?_cons_succ, List.getElem?_nil, Nat.reduceSub, Nat.reduceAdd, Nat.zero_add, Nat.sub_self, List.replicate_succ, List.replicate_zero, Bool.false_bne, Bool.true_bne, Bool.false_xor, Bool.true_xor, Bool.not_true, Bool.not_false, Bool.not_not, beq_self_eq_true, Bool.and_true, Bool.true_and, nl, nls, decide_true, decide_false, exists_eq_left, Bool.false_eq_true, Option.some_inj, Int.reduceToNat, Int.reducePow, Int.reduceMul, Int.reduceSub, Int.reduceAdd, Int.reduceNeg, Nat.reducePow, Nat.reduceLeDiff, Int.reduceLE, Int.reduceLT, Int.reduceAbs, Int.natAbs_neg, Nat.reduceLT, divW_eq, mulW_eq, Bool.or_true, Bool.true_or, cut_map, ← List.map_append, ← List.map_reverse, castN, eq_self, Int.reduceEq, deqC, deq_self, rep_map, nls_dP, wsAugIx, tx_cps, tx_len, tx_app, tx_one, tx_nil, tx_cut, tx_signs, tx_rep, lit_empty, tx_inj, wJoin, gJoin, wmCall, wmOpL, wmOpR, wmIxR, wmTup2, wsSetM, wsAppM, wForM, gSum, gAny, gAll, gLtD, gInT, gSorted, gAddT, wThaw, gMaxL, wTxt, wHoldR, wForThaw, wLsi, wHoldF, wForCell, wSortSet, wLenSet, onTx, gNotB, wMutF, gInI, wSortK, gKey, wsSetV]
  have add : (F.map dT).length < sizeLine ∧ q.nx [.fz (.scr ns), .fz (.lst (l.map dS)), .own false (.lst (F.map dT ++ [dT one])), s3, s4, s5, s6, .fz (dT one), s8, s9, s10] := by
    refine ⟨by rw [List.length_map, sizeLine_eq]; omega, ?_⟩
    have := q1 (F ++ [one]) (.inr rfl)
    simpa using this
  simp only [dT] at add ⊢
  walk_at "s"
  refine Br.d (fun _ => ?_) (fun _ => add)
  refine ⟨ns, 1, rfl, by omega, ?_⟩
  walk_at "s"
  exact Br.d (fun _ => add) fun _ => q1 F (.inl rfl)
theorem fam_5 {R : Rt → Prop} {x : XS} {ns : List Int} {l : List Nat} {rest : Int} {k : Nat} (azl : az l = l) (l1 : 1 ≤ l.length) (l10 : l.length ≤ 10) (k13 : k ≤ 13) (q : ∀ F : List (List Nat), F.length ≤ 13 → (∀ t ∈ F, SoN (az l) t) → R (.new (.lst (F.map dT)))) :
    W_law_family_5 (endsOf R x) [.fz (.scr ns), .fz (.lst (l.map dS)), .own false (.lst []), .fz (.int (ns.getD 2 0)), .fz (.int rest), .fz (.int k), .un, .un, .un, .un, .un] := by
  have lt : Lt l := by rw [← azl]; exact az_lt l
  simp only [W_law_family_5, wVar, wOwn, wC, wOp, onBl, wtOn, wChain, trD, wtVal, wtNot, wAnd, wOr, wAndV, wOrV, wNotV, wIf, wNil, wCons, wTup, wLst, wUn, wNew, gAdd, gInt, gInt0, gMul, gCatF, gRepF, wOpF, gEq, gCmp, gInS, gIsN, isN, gIsB, gIdx, woNone, woSome, gSl, wSl, gSlF, wSlF, wB, wBF, gLen, gInt1, gInt2, gToInt, gListF, tyName, gIsT, wIsT, wCall, Rt.d, Cn.d, onNew, wCallF, wCallN, wCallNF, nlR, wgName, wgNil, wgCons, wgTup, wSeq, wSeqT, wSigns, wRng1, wRng2, wRng3, wRev, wEnum, wZip, wLc, wtYes, wsNil, wsBrk, wsCnt, wsExpr, wsRet, wsRetF, wsRetOwn, wsRetN, wIfS, wsSet, wsSetF, wsAsg, wsPar, wsAug, gApp, gExt, gPop0, gRev, wMut, wsSetIx, wFor, wsRaise, wSeqS, wFrz, wsCallM, wsPopAdd, endsOf, endM, endsM, startM, startE, wipeE, smallI, CPow, Br_true, Br_false, Br_not, rngD_eq, dC, dP, dI, ex_atI_map, atI0, atI1, atI2, kit1, kit2, kit3, kit4, kit5, kit6, kit7, kit8, kit9, kit10, kit11, kit12, kit13, kit14, kit15, kit16, kit17, kit18, kit19, kit20, kit21, kit22, kit23, kit24, kit25, kit26, kit27, kit28, kit29, kit30, kit31, kit32, kit33, kit34, kit35, sizeLine_eq, true_and, and_true, exists_eq_left', Option.some.injEq, List.map_cons, List.map_nil, List.length_cons, List.length_nil, List.length_map, List.length_append, List.cons_append, List.nil_append, List.set_cons_zero, List.set_cons_succ, List.getElem?_cons_zero, List.getElem?_cons_succ, List.getElem?_nil, Nat.reduceSub, Nat.reduceAdd, Nat.zero_add, Nat.sub_self, List.replicate_succ, List.replicate_zero, Bool.false_bne, Bool.true_bne, Bool.false_xor, Bool.true_xor, Bool.not_true, Bool.not_false, Bool.not_not, beq_self_eq_true, Bool.and_true, Bool.true_and, nl, nls, decide_true, decide_false, exists_eq_left, Bool.false_eq_true, Option.some_inj, Int.reduceToNat, Int.reducePow, Int.reduceMul, Int.reduceSub, Int.reduceAdd, Int.reduceNeg, Nat.reducePow, Nat.reduceLeDiff, Int.reduceLE, Int.reduceLT, Int.reduceAbs, Int.natAbs_neg, Nat.reduceLT, divW_eq, mulW_eq, Bool.or_true, Bool.true_or, cut_map, ← List.map_append, ← List.map_reverse, castN, eq_self, Int.reduceEq, deqC, deq_self, rep_map, nls_dP, wsAugIx, tx_cps, tx_len, tx_app, tx_one, tx_nil, tx_cut, tx_signs, tx_rep, lit_empty, tx_inj, wJoin, gJoin, wmCall, wmOpL, wmOpR, wmIxR, wmTup2, wsSetM, wsAppM, wForM, gSum, gAny, gAll, gLtD, gInT, gSorted, gAddT, wThaw, gMaxL, wTxt, wHoldR, wForThaw, wLsi, wHoldF, wForCell, wSortSet, wLenSet, onTx, gNotB, wMutF, gInI, wSortK, gKey, wsSetV]
  refine ⟨⟨by omega, by omega⟩, ?_⟩
  rw [rngN]
  refine loop_ind (S := List (List Nat) × Int × Sl × Sl × Sl × Sl × Sl) (fun i : Nat => D.int i) (fun s => [.fz (.scr ns), .fz (.lst (l.map dS)), .own false (.lst (s.1.map dT)), .fz (.int (ns.getD 2 0)), .fz (.int s.2.1), .fz (.int k), s.2.2.1, s.2.2.2.1, s.2.2.2.2.1, s.2.2.2.2.2.1, s.2.2.2.2.2.2])
    (fun r s => s.1.length + r.length ≤ 13 ∧ (∀ t ∈ s.1, SoN (az l) t) ∧ ∀ i ∈ r, i < 13) ?_ ?_ _ ([], rest, .un, .un, .un, .un, .un) ⟨by simpa using k13, (fun t ht => by cases ht), fun i hi => by have := List.mem_range.mp hi; omega⟩
  · rintro ⟨F, rest, s6, s7, s8, s9, s10⟩ ⟨h1, h2, _⟩
    walk_at "s"
    exact q F (by simpa using h1) h2
  · rintro i r ⟨F, rest, s6, s7, s8, s9, s10⟩ L ⟨h1, h2, h3⟩ ih
    have i13 := h3 i (by simp)
    simp only [List.length_cons] at h1 h2
    have go : ∀ (one : List Nat) (rest : Int) (s8 s9 s10 : Sl), SoN (az l) one → W_law_family_5_1 { nx := L, rt := fun r x => R r, bk := wsRetOwn 2 { nx := fun x => R (Rt.val D.non), rt := fun r x => R r, ex := x }, ct := L, ex := x } [.fz (.scr ns), .fz (.lst (l.map dS)), .own false (.lst (F.map dT)), .fz (.int (ns.getD 2 0)), .fz (.int rest), .fz (.int k), .fz (.int i), .fz (dT one), s8, s9, s10] := fun one rest s8 s9 s10 so =>
      fam_end (by omega) fun G hG => by
        refine ih (G, rest, _, _, _, _, _) ?_
        rcases hG with rfl | rfl
        · exact ⟨by simp only; omega, h2, fun i hi => h3 i (by simp [hi])⟩
        · refine ⟨by simp; omega, fun t ht => ?_, fun i hi => h3 i (by simp [hi])⟩
          rcases List.mem_append.mp ht with z | z
          · exact h2 t z
          · rw [List.mem_singleton] at z; rw [z]; exact so
    walk_at "s"
    have pw : (0 : Int) < 1 * 2 ^ ((l.length : Int)).toNat := by rw [Int.one_mul]; exact Int.pow_pos (by omega)
    have pb : ((1 : Int) * 2 ^ ((l.length : Int)).toNat).natAbs < 2 ^ 11 := by
      have e : ((1 : Int) * 2 ^ ((l.length : Int)).toNat) = ((2 ^ l.length : Nat) : Int) := by rw [Int.one_mul, Int.toNat_natCast]; simp
      rw [e, Int.natAbs_natCast]
      exact Nat.lt_of_le_of_lt (Nat.pow_le_pow_right (by omega) l10) (by omega)
    have els : W_law_family_5_0e_0 { nx := W_law_family_5_1 { nx := L, rt := fun r x => R r, bk := wsRetOwn 2 { nx := fun x => R (Rt.val D.non), rt := fun r x => R r, ex := x }, ct := L, ex := x }, rt := fun r x => R r, bk := wsRetOwn 2 { nx := fun x => R (Rt.val D.non), rt := fun r x => R r, ex := x }, ct := L, ex := x } [.fz (.scr ns), .fz (.lst (l.map dS)), .own false (.lst (F.map dT)), .fz (.int (ns.getD 2 0)), .fz (.int rest), .fz (.int k), .fz (.int i), s7, s8, s9, s10] := by
      simp only [W_law_family_5_0e_0, wVar, wOwn, wC, wOp, onBl, wtOn, wChain, trD, wtVal, wtNot, wAnd, wOr, wAndV, wOrV, wNotV, wIf, wNil, wCons, wTup, wLst, wUn, wNew, gAdd, gInt, gInt0, gMul, gCatF, gRepF, wOpF, gEq, gCmp, gInS, gIsN, isN, gIsB, gIdx, woNone, woSome, gSl, wSl, gSlF, wSlF, wB, wBF, gLen, gInt1, gInt2, gToInt, gListF, tyName, gIsT, wIsT, wCall, Rt.d, Cn.d, onNew, wCallF, wCallN, wCallNF, nlR, wgName, wgNil, wgCons, wgTup, wSeq, wSeqT, wSigns, wRng1, wRng2, wRng3, wRev, wEnum, wZip, wLc, wtYes, wsNil, wsBrk, wsCnt, wsExpr, wsRet, wsRetF, wsRetOwn, wsRetN, wIfS, wsSet, wsSetF, wsAsg, wsPar, wsAug, gApp, gExt, gPop0, gRev, wMut, wsSetIx, wFor, wsRaise, wSeqS, wFrz, wsCallM, wsPopAdd, endsOf, endM, endsM, startM, startE, wipeE, smallI, CPow, Br_true, Br_false, Br_not, rngD_eq, dC, dP, dI, ex_atI_map, atI0, atI1, atI2, kit1, kit2, kit3, kit4, kit5, kit6, kit7, kit8, kit9, kit10, kit11, kit12, kit13, kit14, kit15, kit16, kit17, kit18, kit19, kit20, kit21, kit22, kit23, kit24, kit25, kit26, kit27, kit28, kit29, kit30, kit31, kit32, kit33, kit34, kit35, sizeLine_eq, true_and, and_true, exists_eq_left', Option.some.injEq, List.map_cons, List.map_nil, List.length_cons, List.length_nil, List.length_map, List.length_append, List.cons_append, List.nil_append, List.set_cons_zero, List.set_cons_succ, List.getElem?_cons_zero, List.getElem?_cons_succ, List.getElem?_nil, Nat.reduceSub, Nat.reduceAdd, Nat.zero_add, Nat.sub_self, List.replicate_succ, List.replicate_zero, Bool.false_bne, Bool.true_bne, Bool.false_xor, Bool.true_xor, Bool.not_true, Bool.not_false, Bool.not_not, beq_self_eq_true, Bool.and_true, Bool.true_and, nl, nls, decide_true, decide_false, exists_eq_left, Bool.false_eq_true, Option.some_inj, Int.reduceToNat, Int.reducePow, Int.reduceMul, Int.reduceSub, Int.reduceAdd, Int.reduceNeg, Nat.reducePow, Nat.reduceLeDiff, Int.reduceLE, Int.reduceLT, Int.reduceAbs, Int.natAbs_neg, Nat.reduceLT, divW_eq, mulW_eq, Bool.or_true, Bool.true_or, cut_map, ← List.map_append, ← List.map_reverse, castN, eq_self, Int.reduceEq, deqC, deq_self, rep_map, nls_dP, wsAugIx, tx_cps, tx_len, tx_app, tx_one, tx_nil, tx_cut, tx_signs, tx_rep, lit_empty, tx_inj, wJoin, gJoin, wmCall, wmOpL, wmOpR, wmIxR, wmTup2, wsSetM, wsAppM, wForM, gSum, gAny, gAll, gLtD, gInT, gSorted, gAddT, wThaw, gMaxL, wTxt, wHoldR, wForThaw, wLsi, wHoldF, wForCell, wSortSet, wLenSet, onTx, gNotB, wMutF, gInI, wSortK, gKey, wsSetV]
      refine ⟨ns, 3 + i, rfl, by omega, ?_⟩
      walk_at "s"
      refine ⟨_, i, rfl, by omega, by omega, fun v v0 v1 => ?_⟩
      walk_at "s"
      let pk : Int → Nat := fun p => (atI l (v / p % l.length)).getD 97
      have pkm : ∀ p, atI l (v / p % l.length) = some (pk p) ∧ pk p ∈ l := fun p => by
        obtain ⟨z, hz, mz⟩ := atI_in (xs := l) (i := v / p % l.length) (Int.emod_nonneg _ (by omega)) (Int.emod_lt_of_pos _ (by omega))
        have : pk p = z := by show (atI l (v / p % l.length)).getD 97 = z; rw [hz]; rfl
        rw [this]
        exact ⟨hz, mz⟩
      show compL _ _ _ _ _ (([1, 11, 131, 1009] : List Int).map D.int) []
      refine compL_map' D.int (fun p => dS (pk p)) _ _ (fun p hp Q' hq => ?_) (by rw [List.length_nil, sizeLine_eq]; simp) ?_
      · walk_at "s"
        have p0 : 0 < p ∧ p.natAbs < 2 ^ 11 := by simp only [List.mem_cons, List.not_mem_nil, or_false] at hp; rcases hp with rfl | rfl | rfl | rfl <;> decide
        exact ⟨L2.wide_div p0.1 p0.2 (by omega) (by omega), by omega, pk p, (pkm p).1, hq⟩
      · rw [List.nil_append]
        have e1 : ([1, 11, 131, 1009] : List Int).map (fun p => dS (pk p)) = (([1, 11, 131, 1009] : List Int).map pk).map dS := by simp
        rw [e1]
        have pm : ∀ y ∈ ([1, 11, 131, 1009] : List Int).map pk, y ∈ l := fun y hy => by
          obtain ⟨p, _, rfl⟩ := List.mem_map.mp hy
          exact (pkm p).2
        have pl : (([1, 11, 131, 1009] : List Int).map pk).length = 4 := rfl
        generalize ([1, 11, 131, 1009] : List Int).map pk = P at pm pl
        have cl := cut_len (xs := P) (l := none) (h := some (2 + v / 10007 % 3))
        have cm : ∀ y ∈ cut P none (some (2 + v / 10007 % 3)), y ∈ l := fun y hy => pm y (cut_mem hy)
        rw [cut_map]
        generalize cut P none (some (2 + v / 10007 % 3)) = C at cl cm
        have ltC : Lt C := fun y hy => lt y (cm y hy)
        have ac := az_card ltC
        refine ⟨C.map fun y => tx [y], by simp [dS, Function.comp_def], by rw [dedup_len_az ltC]; omega, (az C).map fun y => tx [y], by rw [sortSet_az ltC], by rw [ones_sum]; omega, ?_⟩
        rw [ones_join]
        exact go _ _ _ _ _ ⟨az_az C, fun y hy => by rw [azl]; exact cm y ((mem_az ltC).mp hy)⟩
    have dig : W_law_family_5_0_0 { nx := W_law_family_5_1 { nx := L, rt := fun r x => R r, bk := wsRetOwn 2 { nx := fun x => R (Rt.val D.non), rt := fun r x => R r, ex := x }, ct := L, ex := x }, rt := fun r x => R r, bk := wsRetOwn 2 { nx := fun x => R (Rt.val D.non), rt := fun r x => R r, ex := x }, ct := L, ex := x } [.fz (.scr ns), .fz (.lst (l.map dS)), .own false (.lst (F.map dT)), .fz (.int (ns.getD 2 0)), .fz (.int rest), .fz (.int k), .fz (.int i), s7, s8, s9, s10] := by
      simp only [W_law_family_5_0_0, wVar, wOwn, wC, wOp, onBl, wtOn, wChain, trD, wtVal, wtNot, wAnd, wOr, wAndV, wOrV, wNotV, wIf, wNil, wCons, wTup, wLst, wUn, wNew, gAdd, gInt, gInt0, gMul, gCatF, gRepF, wOpF, gEq, gCmp, gInS, gIsN, isN, gIsB, gIdx, woNone, woSome, gSl, wSl, gSlF, wSlF, wB, wBF, gLen, gInt1, gInt2, gToInt, gListF, tyName, gIsT, wIsT, wCall, Rt.d, Cn.d, onNew, wCallF, wCallN, wCallNF, nlR, wgName, wgNil, wgCons, wgTup, wSeq, wSeqT, wSigns, wRng1, wRng2, wRng3, wRev, wEnum, wZip, wLc, wtYes, wsNil, wsBrk, wsCnt, wsExpr, wsRet, wsRetF, wsRetOwn, wsRetN, wIfS, wsSet, wsSetF, wsAsg, wsPar, wsAug, gApp, gExt, gPop0, gRev, wMut, wsSetIx, wFor, wsRaise, wSeqS, wFrz, wsCallM, wsPopAdd, endsOf, endM, endsM, startM, startE, wipeE, smallI, CPow, Br_true, Br_false, Br_not, rngD_eq, dC, dP, dI, ex_atI_map, atI0, atI1, atI2, kit1, kit2, kit3, kit4, kit5, kit6, kit7, kit8, kit9, kit10, kit11, kit12, kit13, kit14, kit15, kit16, kit17, kit18, kit19, kit20, kit21, kit22, kit23, kit24, kit25, kit26, kit27, kit28, kit29, kit30, kit31, kit32, kit33, kit34, kit35, sizeLine_eq, true_and, and_true, exists_eq_left', Option.some.injEq, List.map_cons, List.map_nil, List.length_cons, List.length_nil, List.length_map, List.length_append, List.cons_append, List.nil_append, List.set_cons_zero, List.set_cons_succ, List.getElem?_cons_zero, List.getElem?_cons_succ, List.getElem?_nil, Nat.reduceSub, Nat.reduceAdd, Nat.zero_add, Nat.sub_self, List.replicate_succ, List.replicate_zero, Bool.false_bne, Bool.true_bne, Bool.false_xor, Bool.true_xor, Bool.not_true, Bool.not_false, Bool.not_not, beq_self_eq_true, Bool.and_true, Bool.true_and, nl, nls, decide_true, decide_false, exists_eq_left, Bool.false_eq_true, Option.some_inj, Int.reduceToNat, Int.reducePow, Int.reduceMul, Int.reduceSub, Int.reduceAdd, Int.reduceNeg, Nat.reducePow, Nat.reduceLeDiff, Int.reduceLE, Int.reduceLT, Int.reduceAbs, Int.natAbs_neg, Nat.reduceLT, divW_eq, mulW_eq, Bool.or_true, Bool.true_or, cut_map, ← List.map_append, ← List.map_reverse, castN, eq_self, Int.reduceEq, deqC, deq_self, rep_map, nls_dP, wsAugIx, tx_cps, tx_len, tx_app, tx_one, tx_nil, tx_cut, tx_signs, tx_rep, lit_empty, tx_inj, wJoin, gJoin, wmCall, wmOpL, wmOpR, wmIxR, wmTup2, wsSetM, wsAppM, wForM, gSum, gAny, gAll, gLtD, gInT, gSorted, gAddT, wThaw, gMaxL, wTxt, wHoldR, wForThaw, wLsi, wHoldF, wForCell, wSortSet, wLenSet, onTx, gNotB, wMutF, gInI, wSortK, gKey, wsSetV]
      refine ⟨by omega, pw, ?_⟩
      obtain ⟨mm, hm⟩ : ∃ mm : Nat, rest % (1 * 2 ^ ((l.length : Int)).toNat) = mm := ⟨_, (Int.toNat_of_nonneg (Int.emod_nonneg _ (by omega))).symm⟩
      rw [hm]
      refine ⟨mm, l, rfl, by omega, ?_⟩
      walk_at "s"
      refine ⟨by omega, L2.wide_div pw pb (by omega) (by omega), ?_⟩
      exact go _ _ _ _ _ (setM_son azl mm)
    refine Br.d (fun _ => ⟨by omega, ?_⟩) (fun _ => els)
    refine Br.d (fun _ => ⟨by omega, ?_⟩) (fun _ => Br.yes dig)
    rw [Br_not]
    exact Br.d (fun _ => els) (fun _ => dig)
theorem pure_law_family (ds : List D) (x : XS) (R : Rt → Prop) (h : SP_law_family ds x R) : W_law_family (endsOf R x) (startE 11 ds) := by
  obtain ⟨ns, l, rfl, azl, l1, l10, q⟩ := h
  simp only [W_law_family, wVar, wOwn, wC, wOp, onBl, wtOn, wChain, trD, wtVal, wtNot, wAnd, wOr, wAndV, wOrV, wNotV, wIf, wNil, wCons, wTup, wLst, wUn, wNew, gAdd, gInt, gInt0, gMul, gCatF, gRepF, wOpF, gEq, gCmp, gInS, gIsN, isN, gIsB, gIdx, woNone, woSome, gSl, wSl, gSlF, wSlF, wB, wBF, gLen, gInt1, gInt2, gToInt, gListF, tyName, gIsT, wIsT, wCall, Rt.d, Cn.d, onNew, wCallF, wCallN, wCallNF, nlR, wgName, wgNil, wgCons, wgTup, wSeq, wSeqT, wSigns, wRng1, wRng2, wRng3, wRev, wEnum, wZip, wLc, wtYes, wsNil, wsBrk, wsCnt, wsExpr, wsRet, wsRetF, wsRetOwn, wsRetN, wIfS, wsSet, wsSetF, wsAsg, wsPar, wsAug, gApp, gExt, gPop0, gRev, wMut, wsSetIx, wFor, wsRaise, wSeqS, wFrz, wsCallM, wsPopAdd, endsOf, endM, endsM, startM, startE, wipeE, smallI, CPow, Br_true, Br_false, Br_not, rngD_eq, dC, dP, dI, ex_atI_map, atI0, atI1, atI2, kit1, kit2, kit3, kit4, kit5, kit6, kit7, kit8, kit9, kit10, kit11, kit12, kit13, kit14, kit15, kit16, kit17, kit18, kit19, kit20, kit21, kit22, kit23, kit24, kit25, kit26, kit27, kit28, kit29, kit30, kit31, kit32, kit33, kit34, kit35, sizeLine_eq, true_and, and_true, exists_eq_left', Option.some.injEq, List.map_cons, List.map_nil, List.length_cons, List.length_nil, List.length_map, List.length_append, List.cons_append, List.nil_append, List.set_cons_zero, List.set_cons_succ, List.getElem?_cons_zero, List.getElem?_cons_succ, List.getElem?_nil, Nat.reduceSub, Nat.reduceAdd, Nat.zero_add, Nat.sub_self, List.replicate_succ, List.replicate_zero, Bool.false_bne, Bool.true_bne, Bool.false_xor, Bool.true_xor, Bool.not_true, Bool.not_false, Bool.not_not, beq_self_eq_true, Bool.and_true, Bool.true_and, nl, nls, decide_true, decide_false, exists_eq_left, Bool.false_eq_true, Option.some_inj, Int.reduceToNat, Int.reducePow, Int.reduceMul, Int.reduceSub, Int.reduceAdd, Int.reduceNeg, Nat.reducePow, Nat.reduceLeDiff, Int.reduceLE, Int.reduceLT, Int.reduceAbs, Int.natAbs_neg, Nat.reduceLT, divW_eq, mulW_eq, Bool.or_true, Bool.true_or, cut_map, ← List.map_append, ← List.map_reverse, castN, eq_self, Int.reduceEq, deqC, deq_self, rep_map, nls_dP, wsAugIx, tx_cps, tx_len, tx_app, tx_one, tx_nil, tx_cut, tx_signs, tx_rep, lit_empty, tx_inj, wJoin, gJoin, wmCall, wmOpL, wmOpR, wmIxR, wmTup2, wsSetM, wsAppM, wForM, gSum, gAny, gAll, gLtD, gInT, gSorted, gAddT, wThaw, gMaxL, wTxt, wHoldR, wForThaw, wLsi, wHoldF, wForCell, wSortSet, wLenSet, onTx, gNotB, wMutF, gInI, wSortK, gKey, wsSetV]
  refine ⟨ns, 2, rfl, by omega, ?_⟩
  walk_at "s"
  have c0 : 0 ≤ ns.getD 2 0 / 2 % 13 := Int.emod_nonneg _ (by omega)
  have c1 : ns.getD 2 0 / 2 % 13 < 13 := Int.emod_lt_of_pos _ (by omega)
  obtain ⟨k, hk⟩ : ∃ k : Nat, ns.getD 2 0 / 2 % 13 = k := ⟨_, (Int.toNat_of_nonneg c0).symm⟩
  rw [hk]
  refine Br.d (fun _ => ?_) (fun _ => ?_)
  · walk_at "s"
    have : (if (3 : Int) < (k : Int) then (3 : Int) else k) = ((if 3 < k then 3 else k : Nat) : Int) := by split <;> split <;> omega
    rw [this]
    exact fam_5 azl l1 l10 (by split <;> omega) q
  · exact fam_5 azl l1 l10 (by omega) q
--@ by_size
def SP_by_size : Spec := fun ds _ R => ∃ s : Str, ds = [.str s] ∧ s.length ≤ 100000 ∧ R (.val (kz s))
theorem len_by_size (ds : List D) (x : XS) (R : Rt → Prop) (h : SP_by_size ds x R) : ds.length = ["one"].length := by
  obtain ⟨s, rfl, _⟩ := h; rfl
def W_by_size : WS :=
  (wsRet (wTup (wCons (wB gLen (wCons (wVar 0) wNil)) (wCons (wVar 0) wNil))))
theorem pure_by_size (ds : List D) (x : XS) (R : Rt → Prop) (h : SP_by_size ds x R) : W_by_size (endsOf R x) (startE 1 ds) := by
  obtain ⟨s, rfl, hl, q⟩ := h
  simp only [W_by_size, wVar, wOwn, wC, wOp, onBl, wtOn, wChain, trD, wtVal, wtNot, wAnd, wOr, wAndV, wOrV, wNotV, wIf, wNil, wCons, wTup, wLst, wUn, wNew, gAdd, gInt, gInt0, gMul, gCatF, gRepF, wOpF, gEq, gCmp, gInS, gIsN, isN, gIsB, gIdx, woNone, woSome, gSl, wSl, gSlF, wSlF, wB, wBF, gLen, gInt1, gInt2, gToInt, gListF, tyName, gIsT, wIsT, wCall, Rt.d, Cn.d, onNew, wCallF, wCallN, wCallNF, nlR, wgName, wgNil, wgCons, wgTup, wSeq, wSeqT, wSigns, wRng1, wRng2, wRng3, wRev, wEnum, wZip, wLc, wtYes, wsNil, wsBrk, wsCnt, wsExpr, wsRet, wsRetF, wsRetOwn, wsRetN, wIfS, wsSet, wsSetF, wsAsg, wsPar, wsAug, gApp, gExt, gPop0, gRev, wMut, wsSetIx, wFor, wsRaise, wSeqS, wFrz, wsCallM, wsPopAdd, endsOf, endM, endsM, startM, startE, wipeE, smallI, CPow, Br_true, Br_false, Br_not, rngD_eq, dC, dP, dI, ex_atI_map, atI0, atI1, atI2, kit1, kit2, kit3, kit4, kit5, kit6, kit7, kit8, kit9, kit10, kit11, kit12, kit13, kit14, kit15, kit16, kit17, kit18, kit19, kit20, kit21, kit22, kit23, kit24, kit25, kit26, kit27, kit28, kit29, kit30, kit31, kit32, kit33, kit34, kit35, sizeLine_eq, true_and, and_true, exists_eq_left', Option.some.injEq, List.map_cons, List.map_nil, List.length_cons, List.length_nil, List.length_map, List.length_append, List.cons_append, List.nil_append, List.set_cons_zero, List.set_cons_succ, List.getElem?_cons_zero, List.getElem?_cons_succ, List.getElem?_nil, Nat.reduceSub, Nat.reduceAdd, Nat.zero_add, Nat.sub_self, List.replicate_succ, List.replicate_zero, Bool.false_bne, Bool.true_bne, Bool.false_xor, Bool.true_xor, Bool.not_true, Bool.not_false, Bool.not_not, beq_self_eq_true, Bool.and_true, Bool.true_and, nl, nls, decide_true, decide_false, exists_eq_left, Bool.false_eq_true, Option.some_inj, Int.reduceToNat, Int.reducePow, Int.reduceMul, Int.reduceSub, Int.reduceAdd, Int.reduceNeg, Nat.reducePow, Nat.reduceLeDiff, Int.reduceLE, Int.reduceLT, Int.reduceAbs, Int.natAbs_neg, Nat.reduceLT, divW_eq, mulW_eq, Bool.or_true, Bool.true_or, cut_map, ← List.map_append, ← List.map_reverse, castN, eq_self, Int.reduceEq, deqC, deq_self, rep_map, nls_dP, wsAugIx, tx_cps, tx_len, tx_app, tx_one, tx_nil, tx_cut, tx_signs, tx_rep, lit_empty, tx_inj, wJoin, gJoin, wmCall, wmOpL, wmOpR, wmIxR, wmTup2, wsSetM, wsAppM, wForM, gSum, gAny, gAll, gLtD, gInT, gSorted, gAddT, wThaw, gMaxL, wTxt, wHoldR, wForThaw, wLsi, wHoldF, wForCell, wSortSet, wLenSet, onTx, gNotB, wMutF, gInI, wSortK, gKey, wsSetV]
  refine ⟨by omega, ?_⟩
  exact q
--@ is_part
def SP_is_part : Spec := fun ds _ R => ∃ a b : List Nat, ds = [dT a, dT b] ∧ R (.val (.bl (part a b)))
theorem len_is_part (ds : List D) (x : XS) (R : Rt → Prop) (h : SP_is_part ds x R) : ds.length = ["one", "other"].length := by
  obtain ⟨a, b, rfl, _⟩ := h; rfl
def W_is_part : WS :=
  (wSeqS (wFor (wSigns (wVar 0)) (wgName 2)
  (wIfS (wtOn (wOp (gInS true) (wVar 2) (wVar 1)))
  (wsRet (wC (.bl false)))
  wsNil))
  (wsRet (wC (.bl true))))
theorem pure_is_part (ds : List D) (x : XS) (R : Rt → Prop) (h : SP_is_part ds x R) : W_is_part (endsOf R x) (startE 3 ds) := by
  obtain ⟨a, b, rfl, q⟩ := h
  simp only [W_is_part, dT, wVar, wOwn, wC, wOp, onBl, wtOn, wChain, trD, wtVal, wtNot, wAnd, wOr, wAndV, wOrV, wNotV, wIf, wNil, wCons, wTup, wLst, wUn, wNew, gAdd, gInt, gInt0, gMul, gCatF, gRepF, wOpF, gEq, gCmp, gInS, gIsN, isN, gIsB, gIdx, woNone, woSome, gSl, wSl, gSlF, wSlF, wB, wBF, gLen, gInt1, gInt2, gToInt, gListF, tyName, gIsT, wIsT, wCall, Rt.d, Cn.d, onNew, wCallF, wCallN, wCallNF, nlR, wgName, wgNil, wgCons, wgTup, wSeq, wSeqT, wSigns, wRng1, wRng2, wRng3, wRev, wEnum, wZip, wLc, wtYes, wsNil, wsBrk, wsCnt, wsExpr, wsRet, wsRetF, wsRetOwn, wsRetN, wIfS, wsSet, wsSetF, wsAsg, wsPar, wsAug, gApp, gExt, gPop0, gRev, wMut, wsSetIx, wFor, wsRaise, wSeqS, wFrz, wsCallM, wsPopAdd, endsOf, endM, endsM, startM, startE, wipeE, smallI, CPow, Br_true, Br_false, Br_not, rngD_eq, dC, dP, dI, ex_atI_map, atI0, atI1, atI2, kit1, kit2, kit3, kit4, kit5, kit6, kit7, kit8, kit9, kit10, kit11, kit12, kit13, kit14, kit15, kit16, kit17, kit18, kit19, kit20, kit21, kit22, kit23, kit24, kit25, kit26, kit27, kit28, kit29, kit30, kit31, kit32, kit33, kit34, kit35, sizeLine_eq, true_and, and_true, exists_eq_left', Option.some.injEq, List.map_cons, List.map_nil, List.length_cons, List.length_nil, List.length_map, List.length_append, List.cons_append, List.nil_append, List.set_cons_zero, List.set_cons_succ, List.getElem?_cons_zero, List.getElem?_cons_succ, List.getElem?_nil, Nat.reduceSub, Nat.reduceAdd, Nat.zero_add, Nat.sub_self, List.replicate_succ, List.replicate_zero, Bool.false_bne, Bool.true_bne, Bool.false_xor, Bool.true_xor, Bool.not_true, Bool.not_false, Bool.not_not, beq_self_eq_true, Bool.and_true, Bool.true_and, nl, nls, decide_true, decide_false, exists_eq_left, Bool.false_eq_true, Option.some_inj, Int.reduceToNat, Int.reducePow, Int.reduceMul, Int.reduceSub, Int.reduceAdd, Int.reduceNeg, Nat.reducePow, Nat.reduceLeDiff, Int.reduceLE, Int.reduceLT, Int.reduceAbs, Int.natAbs_neg, Nat.reduceLT, divW_eq, mulW_eq, Bool.or_true, Bool.true_or, cut_map, ← List.map_append, ← List.map_reverse, castN, eq_self, Int.reduceEq, deqC, deq_self, rep_map, nls_dP, wsAugIx, tx_cps, tx_len, tx_app, tx_one, tx_nil, tx_cut, tx_signs, tx_rep, lit_empty, tx_inj, wJoin, gJoin, wmCall, wmOpL, wmOpR, wmIxR, wmTup2, wsSetM, wsAppM, wForM, gSum, gAny, gAll, gLtD, gInT, gSorted, gAddT, wThaw, gMaxL, wTxt, wHoldR, wForThaw, wLsi, wHoldF, wForCell, wSortSet, wLenSet, onTx, gNotB, wMutF, gInI, wSortK, gKey, wsSetV]
  refine loop_ind (S := Sl) (fun c => D.str (tx [c])) (fun s => [.fz (.str (tx a)), .fz (.str (tx b)), s]) (fun r _ => part a b = part r b) ?_ ?_ a .un rfl
  · intro s h
    walk_at "s"
    rw [h] at q
    exact q
  · intro c r s L h ih
    walk_at "s"
    refine Br.d (fun hc => ?_) (fun hc => ?_)
    · exact ih _ (by rw [h]; simp [part, hc])
    · rw [h] at q
      simpa [part, hc] using q
--@ has_part
def SP_has_part : Spec := fun ds _ R => ∃ (a : List Nat) (f : List (List Nat)), ds = [dT a, .lst (f.map dT)] ∧ R (.val (.bl (f.any fun y => part y a)))
theorem len_has_part (ds : List D) (x : XS) (R : Rt → Prop) (h : SP_has_part ds x R) : ds.length = ["one", "sets"].length := by
  obtain ⟨a, b, rfl, _⟩ := h; rfl
def W_has_part : WS :=
  (wSeqS (wFor (wSeq (wVar 1)) (wgName 2)
  (wIfS (wtVal (wCall SP_is_part (wCons (wVar 2) (wCons (wVar 0) wNil))))
  (wsRet (wC (.bl true)))
  wsNil))
  (wsRet (wC (.bl false))))
theorem pure_has_part (ds : List D) (x : XS) (R : Rt → Prop) (h : SP_has_part ds x R) : W_has_part (endsOf R x) (startE 3 ds) := by
  obtain ⟨a, f, rfl, q⟩ := h
  simp only [W_has_part, wVar, wOwn, wC, wOp, onBl, wtOn, wChain, trD, wtVal, wtNot, wAnd, wOr, wAndV, wOrV, wNotV, wIf, wNil, wCons, wTup, wLst, wUn, wNew, gAdd, gInt, gInt0, gMul, gCatF, gRepF, wOpF, gEq, gCmp, gInS, gIsN, isN, gIsB, gIdx, woNone, woSome, gSl, wSl, gSlF, wSlF, wB, wBF, gLen, gInt1, gInt2, gToInt, gListF, tyName, gIsT, wIsT, wCall, Rt.d, Cn.d, onNew, wCallF, wCallN, wCallNF, nlR, wgName, wgNil, wgCons, wgTup, wSeq, wSeqT, wSigns, wRng1, wRng2, wRng3, wRev, wEnum, wZip, wLc, wtYes, wsNil, wsBrk, wsCnt, wsExpr, wsRet, wsRetF, wsRetOwn, wsRetN, wIfS, wsSet, wsSetF, wsAsg, wsPar, wsAug, gApp, gExt, gPop0, gRev, wMut, wsSetIx, wFor, wsRaise, wSeqS, wFrz, wsCallM, wsPopAdd, endsOf, endM, endsM, startM, startE, wipeE, smallI, CPow, Br_true, Br_false, Br_not, rngD_eq, dC, dP, dI, ex_atI_map, atI0, atI1, atI2, kit1, kit2, kit3, kit4, kit5, kit6, kit7, kit8, kit9, kit10, kit11, kit12, kit13, kit14, kit15, kit16, kit17, kit18, kit19, kit20, kit21, kit22, kit23, kit24, kit25, kit26, kit27, kit28, kit29, kit30, kit31, kit32, kit33, kit34, kit35, sizeLine_eq, true_and, and_true, exists_eq_left', Option.some.injEq, List.map_cons, List.map_nil, List.length_cons, List.length_nil, List.length_map, List.length_append, List.cons_append, List.nil_append, List.set_cons_zero, List.set_cons_succ, List.getElem?_cons_zero, List.getElem?_cons_succ, List.getElem?_nil, Nat.reduceSub, Nat.reduceAdd, Nat.zero_add, Nat.sub_self, List.replicate_succ, List.replicate_zero, Bool.false_bne, Bool.true_bne, Bool.false_xor, Bool.true_xor, Bool.not_true, Bool.not_false, Bool.not_not, beq_self_eq_true, Bool.and_true, Bool.true_and, nl, nls, decide_true, decide_false, exists_eq_left, Bool.false_eq_true, Option.some_inj, Int.reduceToNat, Int.reducePow, Int.reduceMul, Int.reduceSub, Int.reduceAdd, Int.reduceNeg, Nat.reducePow, Nat.reduceLeDiff, Int.reduceLE, Int.reduceLT, Int.reduceAbs, Int.natAbs_neg, Nat.reduceLT, divW_eq, mulW_eq, Bool.or_true, Bool.true_or, cut_map, ← List.map_append, ← List.map_reverse, castN, eq_self, Int.reduceEq, deqC, deq_self, rep_map, nls_dP, wsAugIx, tx_cps, tx_len, tx_app, tx_one, tx_nil, tx_cut, tx_signs, tx_rep, lit_empty, tx_inj, wJoin, gJoin, wmCall, wmOpL, wmOpR, wmIxR, wmTup2, wsSetM, wsAppM, wForM, gSum, gAny, gAll, gLtD, gInT, gSorted, gAddT, wThaw, gMaxL, wTxt, wHoldR, wForThaw, wLsi, wHoldF, wForCell, wSortSet, wLenSet, onTx, gNotB, wMutF, gInI, wSortK, gKey, wsSetV]
  refine loop_ind (S := Sl) dT (fun s => [.fz (dT a), .fz (.lst (f.map dT)), s]) (fun r _ => (f.any fun y => part y a) = r.any fun y => part y a) ?_ ?_ f .un rfl
  · intro s h
    walk_at "s"
    rw [h] at q
    exact q
  · intro c r s L h ih
    walk_at "s"
    refine ⟨c, a, rfl, ?_⟩
    walk_at "s"
    rw [List.any_cons] at h
    cases hp : part c a with
    | true =>
      refine Br.yes ?_
      rw [h, hp] at q
      exact q
    | false =>
      refine Br.no ?_
      exact ih _ (by rw [h, hp]; rfl)
--@ least_of
def SP_least_of : Spec := fun ds _ R => ∃ (L : List (List Nat)) (u : List Nat), ds = [.lst (L.map dT)] ∧ ((az u).length ≤ 10 ∨ L.length ≤ 1000) ∧ (∀ t ∈ L, SoN (az u) t) ∧ ∀ m, IsMin (Up L) m → (∀ t ∈ m, t ∈ L) → m.length ≤ 1024 → R (.new (.lst (m.map dT)))
theorem len_least_of (ds : List D) (x : XS) (R : Rt → Prop) (h : SP_least_of ds x R) : ds.length = ["sets"].length := by
  obtain ⟨L, u, rfl, _⟩ := h; rfl
def W_least_of : WS :=
  (wSeqS (wsSetF 1 (wLst wNil))
  (wSeqS (wFor (wSeq (wNew (wSortK SP_by_size (wNew (wSortSet (wVar 0)))))) (wgName 2)
  (wIfS (wtNot (wtVal (wCallN SP_has_part (wCons (wVar 2) (wCons (wOwn 1) wNil)))))
  (wMut 1 gApp (wCons (wVar 2) wNil))
  wsNil))
  (wsRetOwn 1)))
theorem pure_least_of (ds : List D) (x : XS) (R : Rt → Prop) (h : SP_least_of ds x R) : W_least_of (endsOf R x) (startE 3 ds) := by
  obtain ⟨L, u, rfl, hu, hL, q⟩ := h
  simp only [W_least_of, wVar, wOwn, wC, wOp, onBl, wtOn, wChain, trD, wtVal, wtNot, wAnd, wOr, wAndV, wOrV, wNotV, wIf, wNil, wCons, wTup, wLst, wUn, wNew, gAdd, gInt, gInt0, gMul, gCatF, gRepF, wOpF, gEq, gCmp, gInS, gIsN, isN, gIsB, gIdx, woNone, woSome, gSl, wSl, gSlF, wSlF, wB, wBF, gLen, gInt1, gInt2, gToInt, gListF, tyName, gIsT, wIsT, wCall, Rt.d, Cn.d, onNew, wCallF, wCallN, wCallNF, nlR, wgName, wgNil, wgCons, wgTup, wSeq, wSeqT, wSigns, wRng1, wRng2, wRng3, wRev, wEnum, wZip, wLc, wtYes, wsNil, wsBrk, wsCnt, wsExpr, wsRet, wsRetF, wsRetOwn, wsRetN, wIfS, wsSet, wsSetF, wsAsg, wsPar, wsAug, gApp, gExt, gPop0, gRev, wMut, wsSetIx, wFor, wsRaise, wSeqS, wFrz, wsCallM, wsPopAdd, endsOf, endM, endsM, startM, startE, wipeE, smallI, CPow, Br_true, Br_false, Br_not, rngD_eq, dC, dP, dI, ex_atI_map, atI0, atI1, atI2, kit1, kit2, kit3, kit4, kit5, kit6, kit7, kit8, kit9, kit10, kit11, kit12, kit13, kit14, kit15, kit16, kit17, kit18, kit19, kit20, kit21, kit22, kit23, kit24, kit25, kit26, kit27, kit28, kit29, kit30, kit31, kit32, kit33, kit34, kit35, sizeLine_eq, true_and, and_true, exists_eq_left', Option.some.injEq, List.map_cons, List.map_nil, List.length_cons, List.length_nil, List.length_map, List.length_append, List.cons_append, List.nil_append, List.set_cons_zero, List.set_cons_succ, List.getElem?_cons_zero, List.getElem?_cons_succ, List.getElem?_nil, Nat.reduceSub, Nat.reduceAdd, Nat.zero_add, Nat.sub_self, List.replicate_succ, List.replicate_zero, Bool.false_bne, Bool.true_bne, Bool.false_xor, Bool.true_xor, Bool.not_true, Bool.not_false, Bool.not_not, beq_self_eq_true, Bool.and_true, Bool.true_and, nl, nls, decide_true, decide_false, exists_eq_left, Bool.false_eq_true, Option.some_inj, Int.reduceToNat, Int.reducePow, Int.reduceMul, Int.reduceSub, Int.reduceAdd, Int.reduceNeg, Nat.reducePow, Nat.reduceLeDiff, Int.reduceLE, Int.reduceLT, Int.reduceAbs, Int.natAbs_neg, Nat.reduceLT, divW_eq, mulW_eq, Bool.or_true, Bool.true_or, cut_map, ← List.map_append, ← List.map_reverse, castN, eq_self, Int.reduceEq, deqC, deq_self, rep_map, nls_dP, wsAugIx, tx_cps, tx_len, tx_app, tx_one, tx_nil, tx_cut, tx_signs, tx_rep, lit_empty, tx_inj, wJoin, gJoin, wmCall, wmOpL, wmOpR, wmIxR, wmTup2, wsSetM, wsAppM, wForM, gSum, gAny, gAll, gLtD, gInT, gSorted, gAddT, wThaw, gMaxL, wTxt, wHoldR, wForThaw, wLsi, wHoldF, wForCell, wSortSet, wLenSet, onTx, gNotB, wMutF, gInI, wSortK, gKey, wsSetV]
  have few : ((L.map tx).foldl dedup []).length ≤ 1024 := by
    rcases hu with hu | hu
    · have few := few_sets hL
      have two : 2 ^ (az u).length ≤ 1024 := Nat.le_trans (Nat.pow_le_pow_right (by omega) hu) (by omega)
      omega
    · have := nodup_sub (l := (L.map tx).foldl dedup []) (m := L.map tx) (nodup_dedup List.nodup_nil) fun k hk => by
        rw [mem_dedup] at hk
        rcases hk with hk | hk
        · exact hk
        · cases hk
      rw [List.length_map] at this
      omega
  refine ⟨L.map tx, by simp [dT, Function.comp_def], by omega, ?_⟩
  generalize hss : sortSet (L.map tx) = ss
  have mem : ∀ t, t ∈ ss.map (fun s => s.cps.toList) ↔ t ∈ L := fun t => by
    rw [List.mem_map]
    constructor
    · rintro ⟨s, hs, rfl⟩
      rw [← hss, sortSet_mem] at hs
      obtain ⟨t, ht, rfl⟩ := List.mem_map.mp hs
      rw [tx_cps]
      exact ht
    · intro ht
      refine ⟨tx t, ?_, tx_cps⟩
      rw [← hss, sortSet_mem]
      exact List.mem_map.mpr ⟨t, ht, rfl⟩
  have lss : ss.length ≤ 1024 := by
    rw [← hss]
    unfold sortSet
    rw [List.length_mergeSort]
    omega
  have hst := strs_tx ss
  generalize hl1 : ss.map (fun s => s.cps.toList) = L1 at hst mem
  have ll1 : L1.length ≤ 1024 := by rw [← hl1, List.length_map]; exact lss
  refine ⟨ss, kz, rfl, ?_, fun z hz => ?_, ?_⟩
  · rw [hst]
    exact srt_kz fun s hs => (hL s ((mem s).mp hs)).lt
  · rw [hst] at hz
    obtain ⟨t, ht, rfl⟩ := List.mem_map.mp hz
    have := (hL t ((mem t).mp ht)).len
    exact ⟨tx t, rfl, by rw [tx_len]; omega, rfl⟩
  rw [hst, sortK_map]
  have hm : ∀ x, x ∈ L1.mergeSort leK ↔ x ∈ L := fun x => by rw [(List.mergeSort_perm _ _).mem_iff, mem]
  have lm := least_min hm (PySem.W.sort_pairwise leK_total _) fun t ht => (hL t ht).1
  have gs := greedy_sub (fun _ => true) (L1.mergeSort leK)
  have q := q _ lm (fun t ht => (hm t).mp (gs.subset ht)) (Nat.le_trans gs.length_le (by rw [List.length_mergeSort]; exact ll1))
  have l2 : (L1.mergeSort leK).length ≤ 1024 := by rw [List.length_mergeSort]; exact ll1
  generalize L1.mergeSort leK = L2 at q l2
  walk_at "s"
  refine loop_ind (S := List (List Nat) × Sl) dT (fun s => [.fz (.lst (L.map dT)), .own false (.lst (s.1.map dT)), s.2]) (fun r s => r.foldl (gst fun _ => true) s.1 = greedy (fun _ => true) L2 ∧ s.1.length + r.length ≤ 1024) ?_ ?_ _ ([], .un) ⟨rfl, by simpa using l2⟩
  · rintro ⟨f, s2⟩ ⟨h1, _⟩
    simp only [List.foldl_nil] at h1
    subst h1
    walk_at "s"
    exact q
  · rintro t r ⟨f, s2⟩ L ⟨h1, h3⟩ ih
    simp only [List.length_cons, List.foldl_cons] at h1 h3
    walk_at "s"
    refine ⟨t, f, rfl, ?_⟩
    walk_at "s"
    cases hp : f.any fun y => part y t with
    | true =>
      refine Br.yes ?_
      refine ih (f, _) ⟨?_, by simp only; omega⟩
      rw [← h1]
      simp [gst, hp]
    | false =>
      refine Br.no ?_
      refine ⟨by rw [List.length_map, sizeLine_eq]; omega, ?_⟩
      have hz : f.map dT ++ [dT t] = (f ++ [t]).map dT := by simp
      rw [hz]
      refine ih (f ++ [t], _) ⟨?_, by simp; omega⟩
      rw [← h1]
      simp [gst, hp]
--@ set_of
def SP_set_of : Spec := fun ds _ R => ∃ l : List Nat, ds = [.str (tx l)] ∧ l.length ≤ 1000000 ∧ Lt l ∧ R (.val (.str (tx (az l))))
theorem len_set_of (ds : List D) (x : XS) (R : Rt → Prop) (h : SP_set_of ds x R) : ds.length = ["nails"].length := by
  obtain ⟨l, rfl, _⟩ := h; rfl
def W_set_of : WS :=
  (wSeqS (wIfS (wtNot (wtVal (wIsT "str" (wVar 0))))
  (wsRaise "NoNails")
  wsNil)
  (wSeqS (wFor (wSigns (wVar 0)) (wgName 1)
  (wIfS (wtOn (wOp (gInS true) (wVar 1) (wC C_NAILS)))
  (wsRaise "NoNails")
  wsNil))
  (wsRet (wJoin (wC (.str "")) (wNew (wSortSet (wVar 0)))))))
theorem pure_set_of (ds : List D) (x : XS) (R : Rt → Prop) (h : SP_set_of ds x R) : W_set_of (endsOf R x) (startE 2 ds) := by
  obtain ⟨l, rfl, hl, ll, q⟩ := h
  simp only [W_set_of, C_NAILS, wVar, wOwn, wC, wOp, onBl, wtOn, wChain, trD, wtVal, wtNot, wAnd, wOr, wAndV, wOrV, wNotV, wIf, wNil, wCons, wTup, wLst, wUn, wNew, gAdd, gInt, gInt0, gMul, gCatF, gRepF, wOpF, gEq, gCmp, gInS, gIsN, isN, gIsB, gIdx, woNone, woSome, gSl, wSl, gSlF, wSlF, wB, wBF, gLen, gInt1, gInt2, gToInt, gListF, tyName, gIsT, wIsT, wCall, Rt.d, Cn.d, onNew, wCallF, wCallN, wCallNF, nlR, wgName, wgNil, wgCons, wgTup, wSeq, wSeqT, wSigns, wRng1, wRng2, wRng3, wRev, wEnum, wZip, wLc, wtYes, wsNil, wsBrk, wsCnt, wsExpr, wsRet, wsRetF, wsRetOwn, wsRetN, wIfS, wsSet, wsSetF, wsAsg, wsPar, wsAug, gApp, gExt, gPop0, gRev, wMut, wsSetIx, wFor, wsRaise, wSeqS, wFrz, wsCallM, wsPopAdd, endsOf, endM, endsM, startM, startE, wipeE, smallI, CPow, Br_true, Br_false, Br_not, rngD_eq, dC, dP, dI, ex_atI_map, atI0, atI1, atI2, kit1, kit2, kit3, kit4, kit5, kit6, kit7, kit8, kit9, kit10, kit11, kit12, kit13, kit14, kit15, kit16, kit17, kit18, kit19, kit20, kit21, kit22, kit23, kit24, kit25, kit26, kit27, kit28, kit29, kit30, kit31, kit32, kit33, kit34, kit35, sizeLine_eq, true_and, and_true, exists_eq_left', Option.some.injEq, List.map_cons, List.map_nil, List.length_cons, List.length_nil, List.length_map, List.length_append, List.cons_append, List.nil_append, List.set_cons_zero, List.set_cons_succ, List.getElem?_cons_zero, List.getElem?_cons_succ, List.getElem?_nil, Nat.reduceSub, Nat.reduceAdd, Nat.zero_add, Nat.sub_self, List.replicate_succ, List.replicate_zero, Bool.false_bne, Bool.true_bne, Bool.false_xor, Bool.true_xor, Bool.not_true, Bool.not_false, Bool.not_not, beq_self_eq_true, Bool.and_true, Bool.true_and, nl, nls, decide_true, decide_false, exists_eq_left, Bool.false_eq_true, Option.some_inj, Int.reduceToNat, Int.reducePow, Int.reduceMul, Int.reduceSub, Int.reduceAdd, Int.reduceNeg, Nat.reducePow, Nat.reduceLeDiff, Int.reduceLE, Int.reduceLT, Int.reduceAbs, Int.natAbs_neg, Nat.reduceLT, divW_eq, mulW_eq, Bool.or_true, Bool.true_or, cut_map, ← List.map_append, ← List.map_reverse, castN, eq_self, Int.reduceEq, deqC, deq_self, rep_map, nls_dP, wsAugIx, tx_cps, tx_len, tx_app, tx_one, tx_nil, tx_cut, tx_signs, tx_rep, lit_empty, tx_inj, wJoin, gJoin, wmCall, wmOpL, wmOpR, wmIxR, wmTup2, wsSetM, wsAppM, wForM, gSum, gAny, gAll, gLtD, gInT, gSorted, gAddT, wThaw, gMaxL, wTxt, wHoldR, wForThaw, wLsi, wHoldF, wForCell, wSortSet, wLenSet, onTx, gNotB, wMutF, gInI, wSortK, gKey, wsSetV]
  refine loop_ind (S := Sl) (fun c => D.str (tx [c])) (fun s => [.fz (.str (tx l)), s]) (fun r _ => Lt r) ?_ ?_ l .un ll
  · intro s _
    simp only [wVar, wOwn, wC, wOp, onBl, wtOn, wChain, trD, wtVal, wtNot, wAnd, wOr, wAndV, wOrV, wNotV, wIf, wNil, wCons, wTup, wLst, wUn, wNew, gAdd, gInt, gInt0, gMul, gCatF, gRepF, wOpF, gEq, gCmp, gInS, gIsN, isN, gIsB, gIdx, woNone, woSome, gSl, wSl, gSlF, wSlF, wB, wBF, gLen, gInt1, gInt2, gToInt, gListF, tyName, gIsT, wIsT, wCall, Rt.d, Cn.d, onNew, wCallF, wCallN, wCallNF, nlR, wgName, wgNil, wgCons, wgTup, wSeq, wSeqT, wSigns, wRng1, wRng2, wRng3, wRev, wEnum, wZip, wLc, wtYes, wsNil, wsBrk, wsCnt, wsExpr, wsRet, wsRetF, wsRetOwn, wsRetN, wIfS, wsSet, wsSetF, wsAsg, wsPar, wsAug, gApp, gExt, gPop0, gRev, wMut, wsSetIx, wFor, wsRaise, wSeqS, wFrz, wsCallM, wsPopAdd, endsOf, endM, endsM, startM, startE, wipeE, smallI, CPow, Br_true, Br_false, Br_not, rngD_eq, dC, dP, dI, ex_atI_map, atI0, atI1, atI2, kit1, kit2, kit3, kit4, kit5, kit6, kit7, kit8, kit9, kit10, kit11, kit12, kit13, kit14, kit15, kit16, kit17, kit18, kit19, kit20, kit21, kit22, kit23, kit24, kit25, kit26, kit27, kit28, kit29, kit30, kit31, kit32, kit33, kit34, kit35, sizeLine_eq, true_and, and_true, exists_eq_left', Option.some.injEq, List.map_cons, List.map_nil, List.length_cons, List.length_nil, List.length_map, List.length_append, List.cons_append, List.nil_append, List.set_cons_zero, List.set_cons_succ, List.getElem?_cons_zero, List.getElem?_cons_succ, List.getElem?_nil, Nat.reduceSub, Nat.reduceAdd, Nat.zero_add, Nat.sub_self, List.replicate_succ, List.replicate_zero, Bool.false_bne, Bool.true_bne, Bool.false_xor, Bool.true_xor, Bool.not_true, Bool.not_false, Bool.not_not, beq_self_eq_true, Bool.and_true, Bool.true_and, nl, nls, decide_true, decide_false, exists_eq_left, Bool.false_eq_true, Option.some_inj, Int.reduceToNat, Int.reducePow, Int.reduceMul, Int.reduceSub, Int.reduceAdd, Int.reduceNeg, Nat.reducePow, Nat.reduceLeDiff, Int.reduceLE, Int.reduceLT, Int.reduceAbs, Int.natAbs_neg, Nat.reduceLT, divW_eq, mulW_eq, Bool.or_true, Bool.true_or, cut_map, ← List.map_append, ← List.map_reverse, castN, eq_self, Int.reduceEq, deqC, deq_self, rep_map, nls_dP, wsAugIx, tx_cps, tx_len, tx_app, tx_one, tx_nil, tx_cut, tx_signs, tx_rep, lit_empty, tx_inj, wJoin, gJoin, wmCall, wmOpL, wmOpR, wmIxR, wmTup2, wsSetM, wsAppM, wForM, gSum, gAny, gAll, gLtD, gInT, gSorted, gAddT, wThaw, gMaxL, wTxt, wHoldR, wForThaw, wLsi, wHoldF, wForCell, wSortSet, wLenSet, onTx, gNotB, wMutF, gInI, wSortK, gKey, wsSetV]
    rw [signs_tx]
    refine ⟨by rw [dedup_len_az ll]; have := azs_len l; omega, ?_⟩
    rw [sortSet_az ll]
    have h2 := azs_len l
    have h1 : (((az l).map fun c => tx [c]).map (·.length)).sum = (az l).length := by
      generalize az l = m
      induction m with
      | nil => rfl
      | cons a m ih => simp only [List.map_cons, List.sum_cons, ih, tx_len, List.length_cons, List.length_nil]; omega
    refine ⟨_, rfl, by omega, ?_⟩
    rw [join_nil, List.map_map]
    have h3 : ((az l).map ((fun x => x.cps.toList) ∘ fun c => tx [c])).flatten = az l := by
      generalize az l = m
      induction m with
      | nil => rfl
      | cons a m ih => rw [List.map_cons, List.flatten_cons, ih]; rfl
    rw [h3]
    exact q
  · intro a r s L hr ih
    walk_at "s"
    have : a ∈ (Str.ofString "abcdefghijklmnopqrstuvwxyz").cps.toList := by
      have := hr a (by simp)
      rw [az_cps]
      exact List.mem_map.mpr ⟨a - 97, by simp; omega, by omega⟩
    refine Br.t this ?_
    exact ih _ fun c hc => hr c (by simp [hc])
--@ check_few
def SP_check_few : Spec := fun ds _ R => ∃ l : List Nat, ds = [.str (tx l)] ∧ l.length ≤ 1000000 ∧ Lt l ∧ (az l).length ≤ 10 ∧ R (.val .non)
theorem len_check_few (ds : List D) (x : XS) (R : Rt → Prop) (h : SP_check_few ds x R) : ds.length = ["nails"].length := by
  obtain ⟨l, rfl, _⟩ := h; rfl
def W_check_few : WS :=
  (wIfS (wtOn (wOp (gCmp fun i j => decide (j < i)) (wLenSet (wVar 0)) (wC C_MOST)))
  (wsRaise "TooMany")
  wsNil)
theorem pure_check_few (ds : List D) (x : XS) (R : Rt → Prop) (h : SP_check_few ds x R) : W_check_few (endsOf R x) (startE 1 ds) := by
  obtain ⟨l, rfl, hl, ll, hm, q⟩ := h
  simp only [W_check_few, C_MOST, wVar, wOwn, wC, wOp, onBl, wtOn, wChain, trD, wtVal, wtNot, wAnd, wOr, wAndV, wOrV, wNotV, wIf, wNil, wCons, wTup, wLst, wUn, wNew, gAdd, gInt, gInt0, gMul, gCatF, gRepF, wOpF, gEq, gCmp, gInS, gIsN, isN, gIsB, gIdx, woNone, woSome, gSl, wSl, gSlF, wSlF, wB, wBF, gLen, gInt1, gInt2, gToInt, gListF, tyName, gIsT, wIsT, wCall, Rt.d, Cn.d, onNew, wCallF, wCallN, wCallNF, nlR, wgName, wgNil, wgCons, wgTup, wSeq, wSeqT, wSigns, wRng1, wRng2, wRng3, wRev, wEnum, wZip, wLc, wtYes, wsNil, wsBrk, wsCnt, wsExpr, wsRet, wsRetF, wsRetOwn, wsRetN, wIfS, wsSet, wsSetF, wsAsg, wsPar, wsAug, gApp, gExt, gPop0, gRev, wMut, wsSetIx, wFor, wsRaise, wSeqS, wFrz, wsCallM, wsPopAdd, endsOf, endM, endsM, startM, startE, wipeE, smallI, CPow, Br_true, Br_false, Br_not, rngD_eq, dC, dP, dI, ex_atI_map, atI0, atI1, atI2, kit1, kit2, kit3, kit4, kit5, kit6, kit7, kit8, kit9, kit10, kit11, kit12, kit13, kit14, kit15, kit16, kit17, kit18, kit19, kit20, kit21, kit22, kit23, kit24, kit25, kit26, kit27, kit28, kit29, kit30, kit31, kit32, kit33, kit34, kit35, sizeLine_eq, true_and, and_true, exists_eq_left', Option.some.injEq, List.map_cons, List.map_nil, List.length_cons, List.length_nil, List.length_map, List.length_append, List.cons_append, List.nil_append, List.set_cons_zero, List.set_cons_succ, List.getElem?_cons_zero, List.getElem?_cons_succ, List.getElem?_nil, Nat.reduceSub, Nat.reduceAdd, Nat.zero_add, Nat.sub_self, List.replicate_succ, List.replicate_zero, Bool.false_bne, Bool.true_bne, Bool.false_xor, Bool.true_xor, Bool.not_true, Bool.not_false, Bool.not_not, beq_self_eq_true, Bool.and_true, Bool.true_and, nl, nls, decide_true, decide_false, exists_eq_left, Bool.false_eq_true, Option.some_inj, Int.reduceToNat, Int.reducePow, Int.reduceMul, Int.reduceSub, Int.reduceAdd, Int.reduceNeg, Nat.reducePow, Nat.reduceLeDiff, Int.reduceLE, Int.reduceLT, Int.reduceAbs, Int.natAbs_neg, Nat.reduceLT, divW_eq, mulW_eq, Bool.or_true, Bool.true_or, cut_map, ← List.map_append, ← List.map_reverse, castN, eq_self, Int.reduceEq, deqC, deq_self, rep_map, nls_dP, wsAugIx, tx_cps, tx_len, tx_app, tx_one, tx_nil, tx_cut, tx_signs, tx_rep, lit_empty, tx_inj, wJoin, gJoin, wmCall, wmOpL, wmOpR, wmIxR, wmTup2, wsSetM, wsAppM, wForM, gSum, gAny, gAll, gLtD, gInT, gSorted, gAddT, wThaw, gMaxL, wTxt, wHoldR, wForThaw, wLsi, wHoldF, wForCell, wSortSet, wLenSet, onTx, gNotB, wMutF, gInI, wSortK, gKey, wsSetV]
  rw [signs_tx, dedup_len_az ll]
  exact ⟨by omega, Br.f (by omega) q⟩
--@ meeting_sets
def SP_meeting_sets : Spec := fun ds _ R => ∃ (F : List (List Nat)) (u : List Nat), ds = [.lst (F.map dT)] ∧ F.length ≤ 20000 ∧ (az u).length ≤ 10 ∧ (∀ t ∈ F, Lt t ∧ t.length ≤ 4000 ∧ ∀ x ∈ t, x ∈ az u) ∧ ∀ m, IsMin (MeetAll (F.map az)) m → m.length ≤ 1024 → (∀ t ∈ m, SoN (az u) t) → R (.new (.lst (m.map dT)))
theorem len_meeting_sets (ds : List D) (x : XS) (R : Rt → Prop) (h : SP_meeting_sets ds x R) : ds.length = ["family"].length := by
  obtain ⟨L, u, rfl, _⟩ := h; rfl
def W_meeting_sets : WS :=
  (wSeqS (wsSet 1 (wCall SP_least_of (wCons (wNew (wLc (wSeq (wVar 0)) (wgName 3) wtYes (wCall SP_set_of (wCons (wVar 3) wNil)) [3])) wNil)))
  (wSeqS (wsExpr (wCall SP_check_few (wCons (wJoin (wC (.str "")) (wNew (wLc (wSeq (wVar 0)) (wgName 3) wtYes (wCall SP_set_of (wCons (wVar 3) wNil)) [3]))) wNil)))
  (wSeqS (wsSetF 2 (wLst (wCons (wC (.str "")) wNil)))
  (wSeqS (wFor (wSeq (wVar 1)) (wgName 3)
  (wSeqS (wsSetF 4 (wLst wNil))
  (wFrz 2 (wSeqS (wFor (wSeq (wVar 2)) (wgName 5)
  (wIfS (wtVal (wB gAny (wCons (wNew (wLc (wSigns (wVar 5)) (wgName 6) wtYes (wOp (gInS false) (wVar 6) (wVar 3)) [6])) wNil)))
  (wMut 4 gApp (wCons (wVar 5) wNil))
  (wMut 4 gExt (wCons (wNew (wLc (wSigns (wVar 3)) (wgName 6) wtYes (wCall SP_set_of (wCons (wOp gAdd (wVar 5) (wVar 6)) wNil)) [6])) wNil))))
  (wFrz 4 (wsSetF 2 (wCallF SP_least_of (wCons (wVar 4) wNil))))))))
  (wsRetOwn 2)))))
theorem pure_meeting_sets (ds : List D) (x : XS) (R : Rt → Prop) (h : SP_meeting_sets ds x R) : W_meeting_sets (endsOf R x) (startE 7 ds) := by
  obtain ⟨F, u, rfl, hl, hu, hF, q⟩ := h
  simp only [W_meeting_sets, wVar, wOwn, wC, wOp, onBl, wtOn, wChain, trD, wtVal, wtNot, wAnd, wOr, wAndV, wOrV, wNotV, wIf, wNil, wCons, wTup, wLst, wUn, wNew, gAdd, gInt, gInt0, gMul, gCatF, gRepF, wOpF, gEq, gCmp, gInS, gIsN, isN, gIsB, gIdx, woNone, woSome, gSl, wSl, gSlF, wSlF, wB, wBF, gLen, gInt1, gInt2, gToInt, gListF, tyName, gIsT, wIsT, wCall, Rt.d, Cn.d, onNew, wCallF, wCallN, wCallNF, nlR, wgName, wgNil, wgCons, wgTup, wSeq, wSeqT, wSigns, wRng1, wRng2, wRng3, wRev, wEnum, wZip, wLc, wtYes, wsNil, wsBrk, wsCnt, wsExpr, wsRet, wsRetF, wsRetOwn, wsRetN, wIfS, wsSet, wsSetF, wsAsg, wsPar, wsAug, gApp, gExt, gPop0, gRev, wMut, wsSetIx, wFor, wsRaise, wSeqS, wFrz, wsCallM, wsPopAdd, endsOf, endM, endsM, startM, startE, wipeE, smallI, CPow, Br_true, Br_false, Br_not, rngD_eq, dC, dP, dI, ex_atI_map, atI0, atI1, atI2, kit1, kit2, kit3, kit4, kit5, kit6, kit7, kit8, kit9, kit10, kit11, kit12, kit13, kit14, kit15, kit16, kit17, kit18, kit19, kit20, kit21, kit22, kit23, kit24, kit25, kit26, kit27, kit28, kit29, kit30, kit31, kit32, kit33, kit34, kit35, sizeLine_eq, true_and, and_true, exists_eq_left', Option.some.injEq, List.map_cons, List.map_nil, List.length_cons, List.length_nil, List.length_map, List.length_append, List.cons_append, List.nil_append, List.set_cons_zero, List.set_cons_succ, List.getElem?_cons_zero, List.getElem?_cons_succ, List.getElem?_nil, Nat.reduceSub, Nat.reduceAdd, Nat.zero_add, Nat.sub_self, List.replicate_succ, List.replicate_zero, Bool.false_bne, Bool.true_bne, Bool.false_xor, Bool.true_xor, Bool.not_true, Bool.not_false, Bool.not_not, beq_self_eq_true, Bool.and_true, Bool.true_and, nl, nls, decide_true, decide_false, exists_eq_left, Bool.false_eq_true, Option.some_inj, Int.reduceToNat, Int.reducePow, Int.reduceMul, Int.reduceSub, Int.reduceAdd, Int.reduceNeg, Nat.reducePow, Nat.reduceLeDiff, Int.reduceLE, Int.reduceLT, Int.reduceAbs, Int.natAbs_neg, Nat.reduceLT, divW_eq, mulW_eq, Bool.or_true, Bool.true_or, cut_map, ← List.map_append, ← List.map_reverse, castN, eq_self, Int.reduceEq, deqC, deq_self, rep_map, nls_dP, wsAugIx, tx_cps, tx_len, tx_app, tx_one, tx_nil, tx_cut, tx_signs, tx_rep, lit_empty, tx_inj, wJoin, gJoin, wmCall, wmOpL, wmOpR, wmIxR, wmTup2, wsSetM, wsAppM, wForM, gSum, gAny, gAll, gLtD, gInT, gSorted, gAddT, wThaw, gMaxL, wTxt, wHoldR, wForThaw, wLsi, wHoldF, wForCell, wSortSet, wLenSet, onTx, gNotB, wMutF, gInI, wSortK, gKey, wsSetV]
  have hG : ∀ t ∈ F.map az, SoN (az u) t := fun s hs => by
    obtain ⟨t, ht, rfl⟩ := List.mem_map.mp hs
    obtain ⟨h1, h2, h3⟩ := hF t ht
    exact ⟨az_az t, fun x hx => h3 x ((mem_az h1).mp hx)⟩
  refine compL_map' dT (fun t => dT (az t)) _ _ (fun t ht Q' hq => ?_) (by rw [List.length_nil, sizeLine_eq]; omega) ?_
  · obtain ⟨h1, h2, h3⟩ := hF t ht
    walk_at "s"
    refine ⟨t, rfl, by omega, h1, ?_⟩
    walk_at "s"
    exact hq
  refine ⟨F.map az, u, by simp [Function.comp_def], .inl hu, hG, fun m0 hm0 sm0 lm0 => ?_⟩
  walk_at "s"
  refine compL_map' dT (fun t => dT (az t)) _ _ (fun t ht Q' hq => ?_) (by rw [List.length_nil, sizeLine_eq]; omega) ?_
  · obtain ⟨h1, h2, h3⟩ := hF t ht
    walk_at "s"
    refine ⟨t, rfl, by omega, h1, ?_⟩
    walk_at "s"
    exact hq
  rw [List.nil_append]
  have hd : (F.map fun t => dT (az t)) = ((F.map az).map tx).map D.str := by simp [dT, Function.comp_def]
  have fl := fam_len fun t ht => (hG t ht).len
  have ff := fam_few hG
  have flt := fam_lt fun t ht => (hG t ht).lt
  generalize hFa : F.map az = G at hG q hd fl ff flt hm0 sm0
  have lG : G.length ≤ 20000 := by rw [← hFa, List.length_map]; exact hl
  refine ⟨G.map tx, hd, by rw [fam_sum]; omega, ?_⟩
  rw [fam_join]
  refine ⟨G.flatten, rfl, by omega, flt, by omega, ?_⟩
  walk_at "s"
  have fin : ∀ f, IsMin (MeetAll m0) f → f.length ≤ 1024 → (∀ t ∈ f, SoN (az u) t) → R (.new (.lst (f.map dT))) := fun f h1 h2 h3 =>
    q f (h1.congr fun s _ => meet_least hm0 fun f hf => (hG f hf).1) h2 h3
  have m0s : ∀ t ∈ m0, SoN (az u) t := fun t ht => hG t (sm0 t ht)
  refine loop_ind (S := List (List Nat) × Sl × Sl × Sl × Sl) dT (fun s => [.fz (.lst (F.map dT)), .fz (.lst (m0.map dT)), .own false (.lst (s.1.map dT)), s.2.1, s.2.2.1, s.2.2.2.1, s.2.2.2.2])
    (fun r s => ∃ pre, pre ++ r = m0 ∧ IsMin (MeetAll pre) s.1 ∧ s.1.length ≤ 1024 ∧ ∀ t ∈ s.1, SoN (az u) t) ?_ ?_ m0 ([[]], .un, .un, .un, .un) ⟨[], rfl, min_start, by simp, fun t ht => by rw [List.mem_singleton] at ht; rw [ht]; exact ⟨rfl, fun x hx => by cases hx⟩⟩
  · rintro ⟨f, s3, s4, s5, s6⟩ ⟨pre, h1, h2, h3, h4⟩
    rw [List.append_nil] at h1
    subst h1
    walk_at "s"
    exact fin f h2 h3 h4
  · rintro one r ⟨f, s3, s4, s5, s6⟩ L ⟨pre, h1, h2, h3, h4⟩ ih
    simp only at h2 h3 h4
    have ho : SoN (az u) one := m0s one (by rw [← h1]; simp)
    walk_at "s"
    have l1 := ho.len
    have lo := ho.lt
    have azo := ho.1
    have done : ∀ s5 s6 G, G = growAll one f → (wFrz 4 (wsSetF 2 (wCallF SP_least_of (wCons (wVar 4) wNil))) ⟨L, fun r _ => R r, wsRetOwn 2 ⟨fun _ => R (Rt.val D.non), fun r _ => R r, fun _ => R (Rt.val D.non), fun _ => R (Rt.val D.non), x⟩, L, x⟩ [.fz (.lst (F.map dT)), .fz (.lst (m0.map dT)), .fz (.lst (f.map dT)), .fz (dT one), .own false (.lst (G.map dT)), s5, s6]) := fun s5 s6 G hG2 => by
      subst hG2
      walk_at "s"
      have gs := grow_son h4 ho
      refine ⟨growAll one f, u, rfl, .inl hu, gs, fun f2 i2 sub2 len2 => ?_⟩
      walk_at "s"
      exact ih (f2, _, _, _, _) ⟨pre ++ [one], by rw [← h1]; simp, i2.congr fun s hs => grow_up h2 azo hs, len2, fun t ht => gs t (sub2 t ht)⟩
    refine loop_ind (S := List (List Nat) × Sl × Sl) dT (fun s => [.fz (.lst (F.map dT)), .fz (.lst (m0.map dT)), .fz (.lst (f.map dT)), .fz (dT one), .own false (.lst (s.1.map dT)), s.2.1, s.2.2])
      (fun r s => r.foldl (fun G had => G ++ grow1 one had) s.1 = growAll one f ∧ s.1.length + 27 * r.length ≤ 30000 ∧ ∀ t ∈ r, SoN (az u) t) ?_ ?_ f ([], s5, s6) ⟨?_, by simp; omega, h4⟩
    · rintro ⟨G, t5, t6⟩ ⟨g1, _, _⟩
      exact done _ _ _ (by simpa using g1)
    · rintro had r ⟨G, t5, t6⟩ L2 ⟨g1, g2, g3⟩ ih2
      simp only [List.length_cons, List.foldl_cons] at g1 g2 g3
      have hh : SoN (az u) had := g3 had (by simp)
      have g3' : ∀ t ∈ r, SoN (az u) t := fun t ht => g3 t (by simp [ht])
      have l2 := hh.len
      have lg := grow1_len one had
      walk_at "s"
      have ht : ∀ t : List Nat, D.str (tx t) = dT t := fun _ => rfl
      show (compL (wgName 6) wtYes (wOp (gInS false) (wVar 6) (wVar 3)) _ _ (signs (tx had)) [])
      rw [tx_signs]
      refine compL_map (fun c => D.str (tx [c])) (fun c => .bl (decide (c ∈ one))) (fun c Q' hq => ?_) _ _ (by rw [List.length_nil, sizeLine_eq]; omega) ?_
      · simp only [dT]
        walk_at "s"
        exact hq
      rw [List.nil_append]
      refine ⟨had.map fun c => decide (c ∈ one), by simp [Function.comp_def], ?_⟩
      have hm : (had.map fun c => decide (c ∈ one)).any id = meets had one := by simp [meets, Function.comp_def]
      rw [hm]
      cases hc : meets had one with
      | true =>
        refine Br.yes ?_
        have g : grow1 one had = [had] := by unfold grow1; rw [if_pos hc]
        rw [g] at g1 lg
        refine ⟨by rw [List.length_map, sizeLine_eq]; omega, ?_⟩
        have hz : G.map dT ++ [dT had] = (G ++ [had]).map dT := by simp
        rw [hz]
        exact ih2 (G ++ [had], _, _) ⟨g1, by simp; omega, g3'⟩
      | false =>
        refine Br.no ?_
        have g : grow1 one had = one.map fun x => az (had ++ [x]) := by unfold grow1; rw [if_neg (by simp [hc])]
        rw [g] at g1 lg
        show (compL (wgName 6) wtYes _ _ _ (signs (tx one)) [])
        rw [tx_signs]
        refine compL_map' (fun c => D.str (tx [c])) (fun c => dT (az (had ++ [c]))) _ _ (fun c hc Q' hq => ?_) (by rw [List.length_nil, sizeLine_eq]; omega) ?_
        · simp only [dT]
          walk_at "s"
          refine ⟨by omega, ?_⟩
          refine ⟨had ++ [c], rfl, by simp; omega, hh.lt.app fun y hy => by rw [List.mem_singleton] at hy; rw [hy]; exact lo c hc, ?_⟩
          walk_at "s"
          exact hq
        rw [List.nil_append]
        refine ⟨by rw [List.length_map, List.length_map, sizeLine_eq]; omega, ?_⟩
        have hz : G.map dT ++ (one.map fun c => dT (az (had ++ [c]))) = (G ++ one.map fun x => az (had ++ [x])).map dT := by simp [Function.comp_def]
        rw [hz]
        refine ih2 (_, _, _) ⟨g1, ?_, g3'⟩
        rw [List.length_append]
        omega
    · rw [grow_fold]; rfl
--@ law_meets
def SP_law_meets : Spec := fun ds _ R => ∃ a b : List Nat, ds = [.str (tx a), .str (tx b)] ∧ a.length ≤ 100000 ∧ R (.val (.bl (meets a b)))
theorem len_law_meets (ds : List D) (x : XS) (R : Rt → Prop) (h : SP_law_meets ds x R) : ds.length = ["_law_one", "_law_other"].length := by
  obtain ⟨a, b, rfl, _⟩ := h; rfl
def W_law_meets : WS :=
  (wsRet (wB gAny (wCons (wNew (wLc (wSigns (wVar 0)) (wgName 2) wtYes (wOp (gInS false) (wVar 2) (wVar 1)) [2])) wNil)))
theorem pure_law_meets (ds : List D) (x : XS) (R : Rt → Prop) (h : SP_law_meets ds x R) : W_law_meets (endsOf R x) (startE 3 ds) := by
  obtain ⟨a, b, rfl, hl, q⟩ := h
  simp only [W_law_meets, wVar, wOwn, wC, wOp, onBl, wtOn, wChain, trD, wtVal, wtNot, wAnd, wOr, wAndV, wOrV, wNotV, wIf, wNil, wCons, wTup, wLst, wUn, wNew, gAdd, gInt, gInt0, gMul, gCatF, gRepF, wOpF, gEq, gCmp, gInS, gIsN, isN, gIsB, gIdx, woNone, woSome, gSl, wSl, gSlF, wSlF, wB, wBF, gLen, gInt1, gInt2, gToInt, gListF, tyName, gIsT, wIsT, wCall, Rt.d, Cn.d, onNew, wCallF, wCallN, wCallNF, nlR, wgName, wgNil, wgCons, wgTup, wSeq, wSeqT, wSigns, wRng1, wRng2, wRng3, wRev, wEnum, wZip, wLc, wtYes, wsNil, wsBrk, wsCnt, wsExpr, wsRet, wsRetF, wsRetOwn, wsRetN, wIfS, wsSet, wsSetF, wsAsg, wsPar, wsAug, gApp, gExt, gPop0, gRev, wMut, wsSetIx, wFor, wsRaise, wSeqS, wFrz, wsCallM, wsPopAdd, endsOf, endM, endsM, startM, startE, wipeE, smallI, CPow, Br_true, Br_false, Br_not, rngD_eq, dC, dP, dI, ex_atI_map, atI0, atI1, atI2, kit1, kit2, kit3, kit4, kit5, kit6, kit7, kit8, kit9, kit10, kit11, kit12, kit13, kit14, kit15, kit16, kit17, kit18, kit19, kit20, kit21, kit22, kit23, kit24, kit25, kit26, kit27, kit28, kit29, kit30, kit31, kit32, kit33, kit34, kit35, sizeLine_eq, true_and, and_true, exists_eq_left', Option.some.injEq, List.map_cons, List.map_nil, List.length_cons, List.length_nil, List.length_map, List.length_append, List.cons_append, List.nil_append, List.set_cons_zero, List.set_cons_succ, List.getElem?_cons_zero, List.getElem?_cons_succ, List.getElem?_nil, Nat.reduceSub, Nat.reduceAdd, Nat.zero_add, Nat.sub_self, List.replicate_succ, List.replicate_zero, Bool.false_bne, Bool.true_bne, Bool.false_xor, Bool.true_xor, Bool.not_true, Bool.not_false, Bool.not_not, beq_self_eq_true, Bool.and_true, Bool.true_and, nl, nls, decide_true, decide_false, exists_eq_left, Bool.false_eq_true, Option.some_inj, Int.reduceToNat, Int.reducePow, Int.reduceMul, Int.reduceSub, Int.reduceAdd, Int.reduceNeg, Nat.reducePow, Nat.reduceLeDiff, Int.reduceLE, Int.reduceLT, Int.reduceAbs, Int.natAbs_neg, Nat.reduceLT, divW_eq, mulW_eq, Bool.or_true, Bool.true_or, cut_map, ← List.map_append, ← List.map_reverse, castN, eq_self, Int.reduceEq, deqC, deq_self, rep_map, nls_dP, wsAugIx, tx_cps, tx_len, tx_app, tx_one, tx_nil, tx_cut, tx_signs, tx_rep, lit_empty, tx_inj, wJoin, gJoin, wmCall, wmOpL, wmOpR, wmIxR, wmTup2, wsSetM, wsAppM, wForM, gSum, gAny, gAll, gLtD, gInT, gSorted, gAddT, wThaw, gMaxL, wTxt, wHoldR, wForThaw, wLsi, wHoldF, wForCell, wSortSet, wLenSet, onTx, gNotB, wMutF, gInI, wSortK, gKey, wsSetV]
  refine compL_map (fun c => D.str (tx [c])) (fun c => .bl (decide (c ∈ b))) (fun c Q' hq => ?_) _ _ ?_ ?_
  · walk_at "s"
    exact hq
  · rw [List.length_nil, sizeLine_eq]; omega
  · refine ⟨a.map fun c => decide (c ∈ b), by simp [Function.comp_def], ?_⟩
    have : (a.map fun c => decide (c ∈ b)).any id = meets a b := by simp [meets, Function.comp_def]
    rw [this]
    exact q
--@ law_is_least
def SP_law_is_least : Spec := fun ds _ R => ∃ (t : List Nat) (F : List (List Nat)), ds = [.str (tx t), .lst (F.map dT)] ∧ t.length ≤ 1000 ∧ F.length ≤ 1000 ∧ Lt t ∧ t.Nodup ∧ (∀ f ∈ F, meets t f = true) ∧ (∀ y ∈ t, ∃ f ∈ F, meets (t.filter fun x => !decide (x = y)) f = false) ∧ R (.val (.bl true))
theorem len_law_is_least (ds : List D) (x : XS) (R : Rt → Prop) (h : SP_law_is_least ds x R) : ds.length = ["_law_one", "_law_family_here"].length := by
  obtain ⟨a, b, rfl, _⟩ := h; rfl
def W_law_is_least : WS :=
  (wSeqS (wIfS (wtNot (wtVal (wB gAll (wCons (wNew (wLc (wSeq (wVar 1)) (wgName 3) wtYes (wCall SP_law_meets (wCons (wVar 0) (wCons (wVar 3) wNil))) [3])) wNil))))
  (wsRet (wC (.bl false)))
  wsNil)
  (wSeqS (wForCell 0 2 (wtVal (wB gAll (wCons (wNew (wLc (wLsi 1) (wgName 3) wtYes (wHoldF SP_law_meets (.ofString "") 0 2 3) [3])) wNil))))
  (wsRet (wC (.bl true)))))
theorem pure_law_is_least (ds : List D) (x : XS) (R : Rt → Prop) (h : SP_law_is_least ds x R) : W_law_is_least (endsOf R x) (startE 4 ds) := by
  obtain ⟨t, F, rfl, tl, fl, lt, nd, h1, h2, q⟩ := h
  simp only [W_law_is_least, wVar, wOwn, wC, wOp, onBl, wtOn, wChain, trD, wtVal, wtNot, wAnd, wOr, wAndV, wOrV, wNotV, wIf, wNil, wCons, wTup, wLst, wUn, wNew, gAdd, gInt, gInt0, gMul, gCatF, gRepF, wOpF, gEq, gCmp, gInS, gIsN, isN, gIsB, gIdx, woNone, woSome, gSl, wSl, gSlF, wSlF, wB, wBF, gLen, gInt1, gInt2, gToInt, gListF, tyName, gIsT, wIsT, wCall, Rt.d, Cn.d, onNew, wCallF, wCallN, wCallNF, nlR, wgName, wgNil, wgCons, wgTup, wSeq, wSeqT, wSigns, wRng1, wRng2, wRng3, wRev, wEnum, wZip, wLc, wtYes, wsNil, wsBrk, wsCnt, wsExpr, wsRet, wsRetF, wsRetOwn, wsRetN, wIfS, wsSet, wsSetF, wsAsg, wsPar, wsAug, gApp, gExt, gPop0, gRev, wMut, wsSetIx, wFor, wsRaise, wSeqS, wFrz, wsCallM, wsPopAdd, endsOf, endM, endsM, startM, startE, wipeE, smallI, CPow, Br_true, Br_false, Br_not, rngD_eq, dC, dP, dI, ex_atI_map, atI0, atI1, atI2, kit1, kit2, kit3, kit4, kit5, kit6, kit7, kit8, kit9, kit10, kit11, kit12, kit13, kit14, kit15, kit16, kit17, kit18, kit19, kit20, kit21, kit22, kit23, kit24, kit25, kit26, kit27, kit28, kit29, kit30, kit31, kit32, kit33, kit34, kit35, sizeLine_eq, true_and, and_true, exists_eq_left', Option.some.injEq, List.map_cons, List.map_nil, List.length_cons, List.length_nil, List.length_map, List.length_append, List.cons_append, List.nil_append, List.set_cons_zero, List.set_cons_succ, List.getElem?_cons_zero, List.getElem?_cons_succ, List.getElem?_nil, Nat.reduceSub, Nat.reduceAdd, Nat.zero_add, Nat.sub_self, List.replicate_succ, List.replicate_zero, Bool.false_bne, Bool.true_bne, Bool.false_xor, Bool.true_xor, Bool.not_true, Bool.not_false, Bool.not_not, beq_self_eq_true, Bool.and_true, Bool.true_and, nl, nls, decide_true, decide_false, exists_eq_left, Bool.false_eq_true, Option.some_inj, Int.reduceToNat, Int.reducePow, Int.reduceMul, Int.reduceSub, Int.reduceAdd, Int.reduceNeg, Nat.reducePow, Nat.reduceLeDiff, Int.reduceLE, Int.reduceLT, Int.reduceAbs, Int.natAbs_neg, Nat.reduceLT, divW_eq, mulW_eq, Bool.or_true, Bool.true_or, cut_map, ← List.map_append, ← List.map_reverse, castN, eq_self, Int.reduceEq, deqC, deq_self, rep_map, nls_dP, wsAugIx, tx_cps, tx_len, tx_app, tx_one, tx_nil, tx_cut, tx_signs, tx_rep, lit_empty, tx_inj, wJoin, gJoin, wmCall, wmOpL, wmOpR, wmIxR, wmTup2, wsSetM, wsAppM, wForM, gSum, gAny, gAll, gLtD, gInT, gSorted, gAddT, wThaw, gMaxL, wTxt, wHoldR, wForThaw, wLsi, wHoldF, wForCell, wSortSet, wLenSet, onTx, gNotB, wMutF, gInI, wSortK, gKey, wsSetV]
  refine compL_map' dT (fun _ => D.bl true) _ _ (fun f hf Q' hq => ?_) (by rw [List.length_nil, sizeLine_eq]; omega) ?_
  · simp only [dT]
    walk_at "s"
    refine ⟨t, f, rfl, by omega, ?_⟩
    rw [h1 f hf]
    walk_at "s"
    exact hq
  · rw [List.nil_append]
    refine ⟨F.map fun _ => true, by simp [Function.comp_def], ?_⟩
    have : (F.map fun _ => true).all id = true := by simp
    rw [this]
    walk_at "s"
    refine ⟨by omega, fun y hy => ?_, q, fun y hy => q⟩
    have hy : y ∈ t := by simpa [tx] using hy
    have fl2 := List.length_filter_le (fun x => !decide (x = y)) t
    refine compL_map' dT (fun f => D.bl (meets (t.filter fun x => !decide (x = y)) f)) _ _ (fun f hf Q' hq => ?_) (by rw [List.length_nil, sizeLine_eq]; omega) ?_
    · simp only [dT, wHoldF, wVar, wOwn, wC, wOp, onBl, wtOn, wChain, trD, wtVal, wtNot, wAnd, wOr, wAndV, wOrV, wNotV, wIf, wNil, wCons, wTup, wLst, wUn, wNew, gAdd, gInt, gInt0, gMul, gCatF, gRepF, wOpF, gEq, gCmp, gInS, gIsN, isN, gIsB, gIdx, woNone, woSome, gSl, wSl, gSlF, wSlF, wB, wBF, gLen, gInt1, gInt2, gToInt, gListF, tyName, gIsT, wIsT, wCall, Rt.d, Cn.d, onNew, wCallF, wCallN, wCallNF, nlR, wgName, wgNil, wgCons, wgTup, wSeq, wSeqT, wSigns, wRng1, wRng2, wRng3, wRev, wEnum, wZip, wLc, wtYes, wsNil, wsBrk, wsCnt, wsExpr, wsRet, wsRetF, wsRetOwn, wsRetN, wIfS, wsSet, wsSetF, wsAsg, wsPar, wsAug, gApp, gExt, gPop0, gRev, wMut, wsSetIx, wFor, wsRaise, wSeqS, wFrz, wsCallM, wsPopAdd, endsOf, endM, endsM, startM, startE, wipeE, smallI, CPow, Br_true, Br_false, Br_not, rngD_eq, dC, dP, dI, ex_atI_map, atI0, atI1, atI2, kit1, kit2, kit3, kit4, kit5, kit6, kit7, kit8, kit9, kit10, kit11, kit12, kit13, kit14, kit15, kit16, kit17, kit18, kit19, kit20, kit21, kit22, kit23, kit24, kit25, kit26, kit27, kit28, kit29, kit30, kit31, kit32, kit33, kit34, kit35, sizeLine_eq, true_and, and_true, exists_eq_left', Option.some.injEq, List.map_cons, List.map_nil, List.length_cons, List.length_nil, List.length_map, List.length_append, List.cons_append, List.nil_append, List.set_cons_zero, List.set_cons_succ, List.getElem?_cons_zero, List.getElem?_cons_succ, List.getElem?_nil, Nat.reduceSub, Nat.reduceAdd, Nat.zero_add, Nat.sub_self, List.replicate_succ, List.replicate_zero, Bool.false_bne, Bool.true_bne, Bool.false_xor, Bool.true_xor, Bool.not_true, Bool.not_false, Bool.not_not, beq_self_eq_true, Bool.and_true, Bool.true_and, nl, nls, decide_true, decide_false, exists_eq_left, Bool.false_eq_true, Option.some_inj, Int.reduceToNat, Int.reducePow, Int.reduceMul, Int.reduceSub, Int.reduceAdd, Int.reduceNeg, Nat.reducePow, Nat.reduceLeDiff, Int.reduceLE, Int.reduceLT, Int.reduceAbs, Int.natAbs_neg, Nat.reduceLT, divW_eq, mulW_eq, Bool.or_true, Bool.true_or, cut_map, ← List.map_append, ← List.map_reverse, castN, eq_self, Int.reduceEq, deqC, deq_self, rep_map, nls_dP, wsAugIx, tx_cps, tx_len, tx_app, tx_one, tx_nil, tx_cut, tx_signs, tx_rep, lit_empty, tx_inj, wJoin, gJoin, wmCall, wmOpL, wmOpR, wmIxR, wmTup2, wsSetM, wsAppM, wForM, gSum, gAny, gAll, gLtD, gInT, gSorted, gAddT, wThaw, gMaxL, wTxt, wHoldR, wForThaw, wLsi, wHoldF, wForCell, wSortSet, wLenSet, onTx, gNotB, wMutF, gInI, wSortK, gKey, wsSetV]
      refine ⟨by omega, rfl, ?_⟩
      have er := repl_out lt nd hy
      rw [show Str.ofString "" = tx [] from rfl] at er
      show Ask SP_law_meets [D.str (Txt.replace (tx t) (tx [y]) (tx [])), .str (tx f)] X0 _ _
      rw [er]
      refine ⟨_, f, rfl, by omega, ?_⟩
      walk_at "s"
      exact hq
    · rw [List.nil_append]
      refine ⟨F.map fun f => meets (t.filter fun x => !decide (x = y)) f, by simp [Function.comp_def], ?_⟩
      obtain ⟨f, hf, e⟩ := h2 y hy
      rw [List.all_eq_false]
      exact ⟨false, List.mem_map.mpr ⟨f, hf, e⟩, by simp⟩
--@ least_sets
def SP_least_sets : Spec := fun ds _ R => ∃ (F : List (List Nat)) (u : List Nat), ds = [.lst (F.map dT)] ∧ F.length ≤ 100000 ∧ ((az u).length ≤ 10 ∨ F.length ≤ 1000) ∧ (∀ t ∈ F, Lt t ∧ t.length ≤ 4000 ∧ ∀ x ∈ t, x ∈ az u) ∧ ∀ m, IsMin (Up (F.map az)) m → m.length ≤ 1024 → R (.new (.lst (m.map dT)))
theorem len_least_sets (ds : List D) (x : XS) (R : Rt → Prop) (h : SP_least_sets ds x R) : ds.length = ["family"].length := by
  obtain ⟨L, u, rfl, _⟩ := h; rfl
def W_least_sets : WS :=
  (wsRetF (wCallF SP_least_of (wCons (wNew (wLc (wSeq (wVar 0)) (wgName 1) wtYes (wCall SP_set_of (wCons (wVar 1) wNil)) [1])) wNil)))
theorem pure_least_sets (ds : List D) (x : XS) (R : Rt → Prop) (h : SP_least_sets ds x R) : W_least_sets (endsOf R x) (startE 2 ds) := by
  obtain ⟨F, u, rfl, hl, hu, hF, q⟩ := h
  simp only [W_least_sets, wVar, wOwn, wC, wOp, onBl, wtOn, wChain, trD, wtVal, wtNot, wAnd, wOr, wAndV, wOrV, wNotV, wIf, wNil, wCons, wTup, wLst, wUn, wNew, gAdd, gInt, gInt0, gMul, gCatF, gRepF, wOpF, gEq, gCmp, gInS, gIsN, isN, gIsB, gIdx, woNone, woSome, gSl, wSl, gSlF, wSlF, wB, wBF, gLen, gInt1, gInt2, gToInt, gListF, tyName, gIsT, wIsT, wCall, Rt.d, Cn.d, onNew, wCallF, wCallN, wCallNF, nlR, wgName, wgNil, wgCons, wgTup, wSeq, wSeqT, wSigns, wRng1, wRng2, wRng3, wRev, wEnum, wZip, wLc, wtYes, wsNil, wsBrk, wsCnt, wsExpr, wsRet, wsRetF, wsRetOwn, wsRetN, wIfS, wsSet, wsSetF, wsAsg, wsPar, wsAug, gApp, gExt, gPop0, gRev, wMut, wsSetIx, wFor, wsRaise, wSeqS, wFrz, wsCallM, wsPopAdd, endsOf, endM, endsM, startM, startE, wipeE, smallI, CPow, Br_true, Br_false, Br_not, rngD_eq, dC, dP, dI, ex_atI_map, atI0, atI1, atI2, kit1, kit2, kit3, kit4, kit5, kit6, kit7, kit8, kit9, kit10, kit11, kit12, kit13, kit14, kit15, kit16, kit17, kit18, kit19, kit20, kit21, kit22, kit23, kit24, kit25, kit26, kit27, kit28, kit29, kit30, kit31, kit32, kit33, kit34, kit35, sizeLine_eq, true_and, and_true, exists_eq_left', Option.some.injEq, List.map_cons, List.map_nil, List.length_cons, List.length_nil, List.length_map, List.length_append, List.cons_append, List.nil_append, List.set_cons_zero, List.set_cons_succ, List.getElem?_cons_zero, List.getElem?_cons_succ, List.getElem?_nil, Nat.reduceSub, Nat.reduceAdd, Nat.zero_add, Nat.sub_self, List.replicate_succ, List.replicate_zero, Bool.false_bne, Bool.true_bne, Bool.false_xor, Bool.true_xor, Bool.not_true, Bool.not_false, Bool.not_not, beq_self_eq_true, Bool.and_true, Bool.true_and, nl, nls, decide_true, decide_false, exists_eq_left, Bool.false_eq_true, Option.some_inj, Int.reduceToNat, Int.reducePow, Int.reduceMul, Int.reduceSub, Int.reduceAdd, Int.reduceNeg, Nat.reducePow, Nat.reduceLeDiff, Int.reduceLE, Int.reduceLT, Int.reduceAbs, Int.natAbs_neg, Nat.reduceLT, divW_eq, mulW_eq, Bool.or_true, Bool.true_or, cut_map, ← List.map_append, ← List.map_reverse, castN, eq_self, Int.reduceEq, deqC, deq_self, rep_map, nls_dP, wsAugIx, tx_cps, tx_len, tx_app, tx_one, tx_nil, tx_cut, tx_signs, tx_rep, lit_empty, tx_inj, wJoin, gJoin, wmCall, wmOpL, wmOpR, wmIxR, wmTup2, wsSetM, wsAppM, wForM, gSum, gAny, gAll, gLtD, gInT, gSorted, gAddT, wThaw, gMaxL, wTxt, wHoldR, wForThaw, wLsi, wHoldF, wForCell, wSortSet, wLenSet, onTx, gNotB, wMutF, gInI, wSortK, gKey, wsSetV]
  refine compL_map' dT (fun t => dT (az t)) _ _ (fun t ht Q' hq => ?_) (by rw [List.length_nil, sizeLine_eq]; omega) ?_
  · obtain ⟨h1, h2, h3⟩ := hF t ht
    walk_at "s"
    refine ⟨t, rfl, by omega, h1, ?_⟩
    walk_at "s"
    exact hq
  · refine ⟨F.map az, u, by simp [Function.comp_def], hu.imp id (fun h => by rw [List.length_map]; exact h), fun s hs => ?_, fun m hm _ lm => q m hm lm⟩
    obtain ⟨t, ht, rfl⟩ := List.mem_map.mp hs
    obtain ⟨h1, h2, h3⟩ := hF t ht
    exact ⟨az_az t, fun x hx => h3 x ((mem_az h1).mp hx)⟩
end NL

namespace NL
open PySem PySem.Spec L2
open PyProof.Rows hiding St
local macro_rules | `(tactic| walk_at "s") => `(tactic| try simp only [wVar, wOwn, wC, wOp, onBl, wtOn, wChain, trD, wtVal, wtNot, wAnd, wOr, wAndV, wOrV, wNotV, wIf, wNil, wCons, wTup, wLst, wUn, wNew, gAdd, gInt, gInt0, gMul, gCatF, gRepF, wOpF, gEq, gCmp, gInS, gIsN, isN, gIsB, gIdx, woNone, woSome, gSl, wSl, gSlF, wSlF, wB, wBF, gLen, gInt1, gInt2, gToInt, gListF, tyName, gIsT, wIsT, wCall, Rt.d, Cn.d, onNew, wCallF, wCallN, wCallNF, nlR, wgName, wgNil, wgCons, wgTup, wSeq, wSeqT, wSigns, wRng1, wRng2, wRng3, wRev, wEnum, wZip, wLc, wtYes, wsNil, wsBrk, wsCnt, wsExpr, wsRet, wsRetF, wsRetOwn, wsRetN, wIfS, wsSet, wsSetF, wsAsg, wsPar, wsAug, gApp, gExt, gPop0, gRev, wMut, wsSetIx, wFor, wsRaise, wSeqS, wFrz, wsCallM, wsPopAdd, endsOf, endM, endsM, startM, startE, wipeE, smallI, CPow, Br_true, Br_false, Br_not, rngD_eq, dC, dP, dI, ex_atI_map, atI0, atI1, atI2, kit1, kit2, kit3, kit4, kit5, kit6, kit7, kit8, kit9, kit10, kit11, kit12, kit13, kit14, kit15, kit16, kit17, kit18, kit19, kit20, kit21, kit22, kit23, kit24, kit25, kit26, kit27, kit28, kit29, kit30, kit31, kit32, kit33, kit34, kit35, sizeLine_eq, true_and, and_true, exists_eq_left', Option.some.injEq, List.map_cons, List.map_nil, List.length_cons, List.length_nil, List.length_map, List.length_append, List.cons_append, List.nil_append, List.set_cons_zero, List.set_cons_succ, List.getElem?_cons_zero, List.getElem?_cons_succ, List.getElem?_nil, Nat.reduceSub, Nat.reduceAdd, Nat.zero_add, Nat.sub_self, List.replicate_succ, List.replicate_zero, Bool.false_bne, Bool.true_bne, Bool.false_xor, Bool.true_xor, Bool.not_true, Bool.not_false, Bool.not_not, beq_self_eq_true, Bool.and_true, Bool.true_and, nl, nls, decide_true, decide_false, exists_eq_left, Bool.false_eq_true, Option.some_inj, Int.reduceToNat, Int.reducePow, Int.reduceMul, Int.reduceSub, Int.reduceAdd, Int.reduceNeg, Nat.reducePow, Nat.reduceLeDiff, Int.reduceLE, Int.reduceLT, Int.reduceAbs, Int.natAbs_neg, Nat.reduceLT, divW_eq, mulW_eq, Bool.or_true, Bool.true_or, cut_map, ← List.map_append, ← List.map_reverse, castN, eq_self, Int.reduceEq, deqC, deq_self, rep_map, nls_dP, wsAugIx, tx_cps, tx_len, tx_app, tx_one, tx_nil, tx_cut, tx_signs, tx_rep, lit_empty, tx_inj, wJoin, gJoin, wmCall, wmOpL, wmOpR, wmIxR, wmTup2, wsSetM, wsAppM, wForM, gSum, gAny, gAll, gLtD, gInT, gSorted, gAddT, wThaw, gMaxL, wTxt, wHoldR, wForThaw, wLsi, wHoldF, wForCell, wSortSet, wLenSet, onTx, gNotB, wMutF, gInI, wSortK, gKey, wsSetV])
--@ law
def W_law_7 : WS :=
  (wSeqS (wsSet 6 (wCall SP_least_sets (wCons (wNew (wBF gListF (wCons (wVar 3) wNil))) wNil)))
  (wsRet (wAndV (wOp (gEq false) (wCall SP_meeting_sets (wCons (wNew (wBF gListF (wCons (wVar 4) wNil))) wNil)) (wVar 6)) (wOp (gEq false) (wCall SP_meeting_sets (wCons (wNew (wBF gListF (wCons (wVar 6) wNil))) wNil)) (wVar 4)))))
def W_law_5 : WS :=
  (wSeqS (wIfS (wOr (wtNot (wtVal (wIsT "list" (wVar 4)))) (wtNot (wtVal (wB gAll (wCons (wNew (wLc (wSeq (wVar 4)) (wgName 5) wtYes (wIsT "str" (wVar 5)) [5])) wNil)))))
  (wsRet (wC (.bl false)))
  wsNil)
  (wSeqS (wFor (wSeq (wVar 4)) (wgName 5)
  (wIfS (wtNot (wtVal (wCall SP_law_is_least (wCons (wVar 5) (wCons (wVar 3) wNil)))))
  (wsRet (wC (.bl false)))
  wsNil))
  W_law_7))
def W_law_2 : WS :=
  (wSeqS (wsSet 2 (wNew (wBF gSorted (wCons (wCall SP_law_nails (wCons (wCall SP_law_at (wCons (wVar 0) (wCons (wC (.int 0)) wNil))) (wCons (wVar 1) wNil))) wNil))))
  (wSeqS (wsSet 3 (wCall SP_law_family (wCons (wVar 0) (wCons (wVar 2) wNil))))
  (wSeqS (wsSet 4 (wCall SP_meeting_sets (wCons (wNew (wBF gListF (wCons (wVar 3) wNil))) wNil)))
  W_law_5)))
def W_law : WS :=
  (wSeqS (wsSet 1 (wOp gAdd (wC (.int 1)) (wOp (gInt (fun _ j => 0 < j) fun i j => i % j) (wCall SP_law_at (wCons (wVar 0) (wCons (wC (.int 1)) wNil))) (wC (.int 6)))))
  (wSeqS (wIfS (wtOn (wOp (gEq false) (wOp (gInt (fun _ j => 0 < j) fun i j => i % j) (wOp (gInt CDivW fun i j => i / j) (wCall SP_law_at (wCons (wVar 0) (wCons (wC (.int 1)) wNil))) (wC (.int 48))) (wC (.int 8))) (wC (.int 5))))
  (wsSet 1 (wC (.int 10)))
  wsNil)
  W_law_2))
/-- what is known -/
structure K34 (l : List Nat) (F m : List (List Nat)) : Prop where
  a : az l = l
  l10 : l.length ≤ 10
  f : F.length ≤ 13
  fs : ∀ t ∈ F, SoN (az l) t
  i : IsMin (MeetAll F) m
  ml : m.length ≤ 1024
  ms : ∀ t ∈ m, SoN (az l) t
theorem K34.hF {l : List Nat} {F m : List (List Nat)} (k : K34 l F m) : ∀ t ∈ F, Lt t ∧ t.length ≤ 4000 ∧ ∀ x ∈ t, x ∈ az l := fun t ht => by
  have s := k.fs t ht
  have := s.len
  exact ⟨s.lt, by omega, s.2⟩
theorem K34.hm {l : List Nat} {F m : List (List Nat)} (k : K34 l F m) : ∀ t ∈ m, Lt t ∧ t.length ≤ 4000 ∧ ∀ x ∈ t, x ∈ az l := fun t ht => by
  have s := k.ms t ht
  have := s.len
  exact ⟨s.lt, by omega, s.2⟩
theorem K34.eF {l : List Nat} {F m : List (List Nat)} (k : K34 l F m) : F.map az = F := (List.map_congr_left fun t ht => (k.fs t ht).1).trans (List.map_id' F)
theorem K34.em {l : List Nat} {F m : List (List Nat)} (k : K34 l F m) : m.map az = m := (List.map_congr_left fun t ht => (k.ms t ht).1).trans (List.map_id' m)
theorem k34_7 {R : Rt → Prop} {x : XS} {s0 s1 s2 s5 s6 : Sl} {l : List Nat} {F m : List (List Nat)} (q : R (.val (.bl true))) (k : K34 l F m) :
    W_law_7 (endsOf R x) [s0, s1, s2, .fz (.lst (F.map dT)), .fz (.lst (m.map dT)), s5, s6] := by
  have f13 := k.f
  have ml := k.ml
  have a10 : (az l).length ≤ 10 := by rw [k.a]; exact k.l10
  simp only [W_law_7, wVar, wOwn, wC, wOp, onBl, wtOn, wChain, trD, wtVal, wtNot, wAnd, wOr, wAndV, wOrV, wNotV, wIf, wNil, wCons, wTup, wLst, wUn, wNew, gAdd, gInt, gInt0, gMul, gCatF, gRepF, wOpF, gEq, gCmp, gInS, gIsN, isN, gIsB, gIdx, woNone, woSome, gSl, wSl, gSlF, wSlF, wB, wBF, gLen, gInt1, gInt2, gToInt, gListF, tyName, gIsT, wIsT, wCall, Rt.d, Cn.d, onNew, wCallF, wCallN, wCallNF, nlR, wgName, wgNil, wgCons, wgTup, wSeq, wSeqT, wSigns, wRng1, wRng2, wRng3, wRev, wEnum, wZip, wLc, wtYes, wsNil, wsBrk, wsCnt, wsExpr, wsRet, wsRetF, wsRetOwn, wsRetN, wIfS, wsSet, wsSetF, wsAsg, wsPar, wsAug, gApp, gExt, gPop0, gRev, wMut, wsSetIx, wFor, wsRaise, wSeqS, wFrz, wsCallM, wsPopAdd, endsOf, endM, endsM, startM, startE, wipeE, smallI, CPow, Br_true, Br_false, Br_not, rngD_eq, dC, dP, dI, ex_atI_map, atI0, atI1, atI2, kit1, kit2, kit3, kit4, kit5, kit6, kit7, kit8, kit9, kit10, kit11, kit12, kit13, kit14, kit15, kit16, kit17, kit18, kit19, kit20, kit21, kit22, kit23, kit24, kit25, kit26, kit27, kit28, kit29, kit30, kit31, kit32, kit33, kit34, kit35, sizeLine_eq, true_and, and_true, exists_eq_left', Option.some.injEq, List.map_cons, List.map_nil, List.length_cons, List.length_nil, List.length_map, List.length_append, List.cons_append, List.nil_append, List.set_cons_zero, List.set_cons_succ, List.getElem?_cons_zero, List.getElem?_cons_succ, List.getElem?_nil, Nat.reduceSub, Nat.reduceAdd, Nat.zero_add, Nat.sub_self, List.replicate_succ, List.replicate_zero, Bool.false_bne, Bool.true_bne, Bool.false_xor, Bool.true_xor, Bool.not_true, Bool.not_false, Bool.not_not, beq_self_eq_true, Bool.and_true, Bool.true_and, nl, nls, decide_true, decide_false, exists_eq_left, Bool.false_eq_true, Option.some_inj, Int.reduceToNat, Int.reducePow, Int.reduceMul, Int.reduceSub, Int.reduceAdd, Int.reduceNeg, Nat.reducePow, Nat.reduceLeDiff, Int.reduceLE, Int.reduceLT, Int.reduceAbs, Int.natAbs_neg, Nat.reduceLT, divW_eq, mulW_eq, Bool.or_true, Bool.true_or, cut_map, ← List.map_append, ← List.map_reverse, castN, eq_self, Int.reduceEq, deqC, deq_self, rep_map, nls_dP, wsAugIx, tx_cps, tx_len, tx_app, tx_one, tx_nil, tx_cut, tx_signs, tx_rep, lit_empty, tx_inj, wJoin, gJoin, wmCall, wmOpL, wmOpR, wmIxR, wmTup2, wsSetM, wsAppM, wForM, gSum, gAny, gAll, gLtD, gInT, gSorted, gAddT, wThaw, gMaxL, wTxt, wHoldR, wForThaw, wLsi, wHoldF, wForCell, wSortSet, wLenSet, onTx, gNotB, wMutF, gInI, wSortK, gKey, wsSetV]
  refine ⟨F, l, rfl, by omega, .inl a10, k.hF, fun m2 h1 h2 => ?_⟩
  rw [k.eF] at h1
  have hl : ∀ t ∈ m2, SoN (az l) t := fun t ht => by
    obtain ⟨f, hf, p⟩ := h1.is ht
    have pf := ((h1.2.2 t).mp ht).2.2 f (k.fs f hf).1 ⟨f, hf, part_refl f⟩ p
    exact ⟨h1.az ht, fun x hx => (k.fs f hf).2 x (part_iff.mp pf x hx)⟩
  have e2 : m2.map az = m2 := (List.map_congr_left fun t ht => (hl t ht).1).trans (List.map_id' m2)
  have nb1 : nb 20 (.lst (m.map dT)) = true := nb_fam (n := 18) k.i.lt
  have nb2 : nb 20 (.lst (m2.map dT)) = true := nb_fam (n := 18) h1.lt
  walk_at "s"
  refine ⟨m, l, rfl, by omega, a10, k.hm, fun m3 g1 g2 g3 => ?_⟩
  rw [k.em] at g1
  have := g1.eq h1 fun s hs => meet_twice k.i (fun f hf => (k.fs f hf).1) hs
  subst this
  walk_at "s"
  refine ⟨⟨nb2, nb2⟩, ?_⟩
  walk_at "s"
  refine ⟨m3, l, rfl, by omega, a10, fun t ht => ⟨(hl t ht).lt, by have := (hl t ht).len; omega, (hl t ht).2⟩, fun m4 g1 g2 g3 => ?_⟩
  rw [e2] at g1
  have := g1.eq k.i fun s _ => meet_least h1 fun f hf => (k.fs f hf).1
  subst this
  walk_at "s"
  refine ⟨⟨nb1, nb1⟩, ?_⟩
  walk_at "s"
  exact q
theorem k34_5 {R : Rt → Prop} {x : XS} {s0 s1 s2 s5 s6 : Sl} {l : List Nat} {F m : List (List Nat)} (q : R (.val (.bl true))) (k : K34 l F m) :
    W_law_5 (endsOf R x) [s0, s1, s2, .fz (.lst (F.map dT)), .fz (.lst (m.map dT)), s5, s6] := by
  have f13 := k.f
  have ml := k.ml
  simp only [W_law_5, wVar, wOwn, wC, wOp, onBl, wtOn, wChain, trD, wtVal, wtNot, wAnd, wOr, wAndV, wOrV, wNotV, wIf, wNil, wCons, wTup, wLst, wUn, wNew, gAdd, gInt, gInt0, gMul, gCatF, gRepF, wOpF, gEq, gCmp, gInS, gIsN, isN, gIsB, gIdx, woNone, woSome, gSl, wSl, gSlF, wSlF, wB, wBF, gLen, gInt1, gInt2, gToInt, gListF, tyName, gIsT, wIsT, wCall, Rt.d, Cn.d, onNew, wCallF, wCallN, wCallNF, nlR, wgName, wgNil, wgCons, wgTup, wSeq, wSeqT, wSigns, wRng1, wRng2, wRng3, wRev, wEnum, wZip, wLc, wtYes, wsNil, wsBrk, wsCnt, wsExpr, wsRet, wsRetF, wsRetOwn, wsRetN, wIfS, wsSet, wsSetF, wsAsg, wsPar, wsAug, gApp, gExt, gPop0, gRev, wMut, wsSetIx, wFor, wsRaise, wSeqS, wFrz, wsCallM, wsPopAdd, endsOf, endM, endsM, startM, startE, wipeE, smallI, CPow, Br_true, Br_false, Br_not, rngD_eq, dC, dP, dI, ex_atI_map, atI0, atI1, atI2, kit1, kit2, kit3, kit4, kit5, kit6, kit7, kit8, kit9, kit10, kit11, kit12, kit13, kit14, kit15, kit16, kit17, kit18, kit19, kit20, kit21, kit22, kit23, kit24, kit25, kit26, kit27, kit28, kit29, kit30, kit31, kit32, kit33, kit34, kit35, sizeLine_eq, true_and, and_true, exists_eq_left', Option.some.injEq, List.map_cons, List.map_nil, List.length_cons, List.length_nil, List.length_map, List.length_append, List.cons_append, List.nil_append, List.set_cons_zero, List.set_cons_succ, List.getElem?_cons_zero, List.getElem?_cons_succ, List.getElem?_nil, Nat.reduceSub, Nat.reduceAdd, Nat.zero_add, Nat.sub_self, List.replicate_succ, List.replicate_zero, Bool.false_bne, Bool.true_bne, Bool.false_xor, Bool.true_xor, Bool.not_true, Bool.not_false, Bool.not_not, beq_self_eq_true, Bool.and_true, Bool.true_and, nl, nls, decide_true, decide_false, exists_eq_left, Bool.false_eq_true, Option.some_inj, Int.reduceToNat, Int.reducePow, Int.reduceMul, Int.reduceSub, Int.reduceAdd, Int.reduceNeg, Nat.reducePow, Nat.reduceLeDiff, Int.reduceLE, Int.reduceLT, Int.reduceAbs, Int.natAbs_neg, Nat.reduceLT, divW_eq, mulW_eq, Bool.or_true, Bool.true_or, cut_map, ← List.map_append, ← List.map_reverse, castN, eq_self, Int.reduceEq, deqC, deq_self, rep_map, nls_dP, wsAugIx, tx_cps, tx_len, tx_app, tx_one, tx_nil, tx_cut, tx_signs, tx_rep, lit_empty, tx_inj, wJoin, gJoin, wmCall, wmOpL, wmOpR, wmIxR, wmTup2, wsSetM, wsAppM, wForM, gSum, gAny, gAll, gLtD, gInT, gSorted, gAddT, wThaw, gMaxL, wTxt, wHoldR, wForThaw, wLsi, wHoldF, wForCell, wSortSet, wLenSet, onTx, gNotB, wMutF, gInI, wSortK, gKey, wsSetV]
  refine compL_map' dT (fun _ => D.bl true) _ _ (fun t ht Q' hq => ?_) (by rw [List.length_nil, sizeLine_eq]; omega) ?_
  · simp only [dT]
    walk_at "s"
    exact hq
  rw [List.nil_append]
  refine ⟨m.map fun _ => true, by simp [Function.comp_def], ?_⟩
  have : (m.map fun _ => true).all id = true := by simp
  rw [this]
  walk_at "s"
  refine loop_ind (S := Sl) dT (fun s => [s0, s1, s2, .fz (.lst (F.map dT)), .fz (.lst (m.map dT)), s, s6]) (fun r _ => ∀ t ∈ r, t ∈ m) ?_ ?_ _ s5 (fun _ h => h)
  · intro s5 _
    exact k34_7 q k
  · intro t r s5 L hr ih
    have ht := hr t (by simp)
    have st := k.ms t ht
    have tl := st.len
    have nd : t.Nodup := by rw [← st.1]; exact az_nodup t
    walk_at "s"
    refine ⟨t, F, rfl, by omega, by omega, st.lt, nd, k.i.is ht, fun y hy => ?_, ?_⟩
    · apply Classical.byContradiction
      intro z
      have so : SoN (az t) (t.filter fun x => !decide (x = y)) := SoN.of_sub (by rw [st.1]; exact List.filter_sublist)
      have ma : MeetAll F (t.filter fun x => !decide (x = y)) := fun f hf => by
        cases e : meets (t.filter fun x => !decide (x = y)) f with
        | true => rfl
        | false => exact absurd ⟨f, hf, e⟩ z
      have := ((k.i.2.2 t).mp ht).2.2 _ so.1 ma (part_iff.mpr fun x hx => (List.mem_filter.mp hx).1)
      have := (List.mem_filter.mp (part_iff.mp this y hy)).2
      simp at this
    · walk_at "s"
      exact ih _ fun t ht => hr t (by simp [ht])
theorem k34_2 {R : Rt → Prop} {x : XS} {ns : List Int} {many : Nat} (h1 : 1 ≤ many) (h6 : many ≤ 10) (q : R (.val (.bl true))) :
    W_law_2 (endsOf R x) [.fz (.scr ns), .fz (.int many), .un, .un, .un, .un, .un] := by
  simp only [W_law_2, wVar, wOwn, wC, wOp, onBl, wtOn, wChain, trD, wtVal, wtNot, wAnd, wOr, wAndV, wOrV, wNotV, wIf, wNil, wCons, wTup, wLst, wUn, wNew, gAdd, gInt, gInt0, gMul, gCatF, gRepF, wOpF, gEq, gCmp, gInS, gIsN, isN, gIsB, gIdx, woNone, woSome, gSl, wSl, gSlF, wSlF, wB, wBF, gLen, gInt1, gInt2, gToInt, gListF, tyName, gIsT, wIsT, wCall, Rt.d, Cn.d, onNew, wCallF, wCallN, wCallNF, nlR, wgName, wgNil, wgCons, wgTup, wSeq, wSeqT, wSigns, wRng1, wRng2, wRng3, wRev, wEnum, wZip, wLc, wtYes, wsNil, wsBrk, wsCnt, wsExpr, wsRet, wsRetF, wsRetOwn, wsRetN, wIfS, wsSet, wsSetF, wsAsg, wsPar, wsAug, gApp, gExt, gPop0, gRev, wMut, wsSetIx, wFor, wsRaise, wSeqS, wFrz, wsCallM, wsPopAdd, endsOf, endM, endsM, startM, startE, wipeE, smallI, CPow, Br_true, Br_false, Br_not, rngD_eq, dC, dP, dI, ex_atI_map, atI0, atI1, atI2, kit1, kit2, kit3, kit4, kit5, kit6, kit7, kit8, kit9, kit10, kit11, kit12, kit13, kit14, kit15, kit16, kit17, kit18, kit19, kit20, kit21, kit22, kit23, kit24, kit25, kit26, kit27, kit28, kit29, kit30, kit31, kit32, kit33, kit34, kit35, sizeLine_eq, true_and, and_true, exists_eq_left', Option.some.injEq, List.map_cons, List.map_nil, List.length_cons, List.length_nil, List.length_map, List.length_append, List.cons_append, List.nil_append, List.set_cons_zero, List.set_cons_succ, List.getElem?_cons_zero, List.getElem?_cons_succ, List.getElem?_nil, Nat.reduceSub, Nat.reduceAdd, Nat.zero_add, Nat.sub_self, List.replicate_succ, List.replicate_zero, Bool.false_bne, Bool.true_bne, Bool.false_xor, Bool.true_xor, Bool.not_true, Bool.not_false, Bool.not_not, beq_self_eq_true, Bool.and_true, Bool.true_and, nl, nls, decide_true, decide_false, exists_eq_left, Bool.false_eq_true, Option.some_inj, Int.reduceToNat, Int.reducePow, Int.reduceMul, Int.reduceSub, Int.reduceAdd, Int.reduceNeg, Nat.reducePow, Nat.reduceLeDiff, Int.reduceLE, Int.reduceLT, Int.reduceAbs, Int.natAbs_neg, Nat.reduceLT, divW_eq, mulW_eq, Bool.or_true, Bool.true_or, cut_map, ← List.map_append, ← List.map_reverse, castN, eq_self, Int.reduceEq, deqC, deq_self, rep_map, nls_dP, wsAugIx, tx_cps, tx_len, tx_app, tx_one, tx_nil, tx_cut, tx_signs, tx_rep, lit_empty, tx_inj, wJoin, gJoin, wmCall, wmOpL, wmOpR, wmIxR, wmTup2, wsSetM, wsAppM, wForM, gSum, gAny, gAll, gLtD, gInT, gSorted, gAddT, wThaw, gMaxL, wTxt, wHoldR, wForThaw, wLsi, wHoldF, wForCell, wSortSet, wLenSet, onTx, gNotB, wMutF, gInI, wSortK, gKey, wsSetV]
  refine ⟨ns, 0, rfl, by omega, ?_⟩
  walk_at "s"
  refine ⟨_, many, rfl, by omega, fun l0 hl ll nd _ => ?_⟩
  obtain ⟨g1, g2⟩ := sor_nails (nd (by omega)) ll
  walk_at "s"
  refine ⟨g1, ?_⟩
  rw [g2]
  have hc := az_card ll
  have hc1 : 1 ≤ (az l0).length := by
    cases l0 with
    | nil => simp at hl; omega
    | cons y r =>
      have : y ∈ az (y :: r) := (mem_az ll).mpr (by simp)
      exact List.length_pos_of_mem this
  have ea := az_az l0
  generalize az l0 = l at hc hc1 ea
  refine ⟨ns, l, rfl, ea, hc1, by omega, fun F f13 fs => ?_⟩
  walk_at "s"
  have eF : F.map az = F := (List.map_congr_left fun t ht => (fs t ht).1).trans (List.map_id' F)
  refine ⟨F, l, rfl, by omega, by rw [ea]; omega, fun t ht => ⟨(fs t ht).lt, by have := (fs t ht).len; omega, (fs t ht).2⟩, fun m m1 m2 m3 => ?_⟩
  rw [eF] at m1
  walk_at "s"
  exact k34_5 q ⟨ea, by omega, f13, fs, m1, m2, m3⟩
theorem pure_law (ds : List D) (x : XS) (R : Rt → Prop) (h : SP_law ds x R) : W_law (endsOf R x) (startE 7 ds) := by
  obtain ⟨ns, rfl, hn, q⟩ := h
  simp only [W_law, wVar, wOwn, wC, wOp, onBl, wtOn, wChain, trD, wtVal, wtNot, wAnd, wOr, wAndV, wOrV, wNotV, wIf, wNil, wCons, wTup, wLst, wUn, wNew, gAdd, gInt, gInt0, gMul, gCatF, gRepF, wOpF, gEq, gCmp, gInS, gIsN, isN, gIsB, gIdx, woNone, woSome, gSl, wSl, gSlF, wSlF, wB, wBF, gLen, gInt1, gInt2, gToInt, gListF, tyName, gIsT, wIsT, wCall, Rt.d, Cn.d, onNew, wCallF, wCallN, wCallNF, nlR, wgName, wgNil, wgCons, wgTup, wSeq, wSeqT, wSigns, wRng1, wRng2, wRng3, wRev, wEnum, wZip, wLc, wtYes, wsNil, wsBrk, wsCnt, wsExpr, wsRet, wsRetF, wsRetOwn, wsRetN, wIfS, wsSet, wsSetF, wsAsg, wsPar, wsAug, gApp, gExt, gPop0, gRev, wMut, wsSetIx, wFor, wsRaise, wSeqS, wFrz, wsCallM, wsPopAdd, endsOf, endM, endsM, startM, startE, wipeE, smallI, CPow, Br_true, Br_false, Br_not, rngD_eq, dC, dP, dI, ex_atI_map, atI0, atI1, atI2, kit1, kit2, kit3, kit4, kit5, kit6, kit7, kit8, kit9, kit10, kit11, kit12, kit13, kit14, kit15, kit16, kit17, kit18, kit19, kit20, kit21, kit22, kit23, kit24, kit25, kit26, kit27, kit28, kit29, kit30, kit31, kit32, kit33, kit34, kit35, sizeLine_eq, true_and, and_true, exists_eq_left', Option.some.injEq, List.map_cons, List.map_nil, List.length_cons, List.length_nil, List.length_map, List.length_append, List.cons_append, List.nil_append, List.set_cons_zero, List.set_cons_succ, List.getElem?_cons_zero, List.getElem?_cons_succ, List.getElem?_nil, Nat.reduceSub, Nat.reduceAdd, Nat.zero_add, Nat.sub_self, List.replicate_succ, List.replicate_zero, Bool.false_bne, Bool.true_bne, Bool.false_xor, Bool.true_xor, Bool.not_true, Bool.not_false, Bool.not_not, beq_self_eq_true, Bool.and_true, Bool.true_and, nl, nls, decide_true, decide_false, exists_eq_left, Bool.false_eq_true, Option.some_inj, Int.reduceToNat, Int.reducePow, Int.reduceMul, Int.reduceSub, Int.reduceAdd, Int.reduceNeg, Nat.reducePow, Nat.reduceLeDiff, Int.reduceLE, Int.reduceLT, Int.reduceAbs, Int.natAbs_neg, Nat.reduceLT, divW_eq, mulW_eq, Bool.or_true, Bool.true_or, cut_map, ← List.map_append, ← List.map_reverse, castN, eq_self, Int.reduceEq, deqC, deq_self, rep_map, nls_dP, wsAugIx, tx_cps, tx_len, tx_app, tx_one, tx_nil, tx_cut, tx_signs, tx_rep, lit_empty, tx_inj, wJoin, gJoin, wmCall, wmOpL, wmOpR, wmIxR, wmTup2, wsSetM, wsAppM, wForM, gSum, gAny, gAll, gLtD, gInT, gSorted, gAddT, wThaw, gMaxL, wTxt, wHoldR, wForThaw, wLsi, wHoldF, wForCell, wSortSet, wLenSet, onTx, gNotB, wMutF, gInI, wSortK, gKey, wsSetV]
  refine ⟨ns, 1, rfl, by omega, ?_⟩
  walk_at "s"
  refine ⟨ns, 1, rfl, by omega, ?_⟩
  walk_at "s"
  have e0 : 0 ≤ ns.getD 1 0 % 6 := Int.emod_nonneg _ (by omega)
  have e1 : ns.getD 1 0 % 6 < 6 := Int.emod_lt_of_pos _ (by omega)
  refine Br.d (fun _ => ?_) (fun _ => ?_)
  · exact k34_2 (many := 10) (by omega) (by omega) q
  · obtain ⟨k, hk⟩ : ∃ k : Nat, 1 + ns.getD 1 0 % 6 = k := ⟨_, (Int.toNat_of_nonneg (by omega)).symm⟩
    rw [hk]
    exact k34_2 (by omega) (by omega) q
end NL

namespace NL
open PySem PySem.Spec L2
open PyProof.Rows hiding St

def topS (i : Nat) : Stmt := PySem.Challenge.pw_nailhang_k34_meeting_twice.main.body.getD i (.Pass ⟨0, 0, 0, 0⟩)
abbrev s_law_at : Stmt := topS 17
abbrev N_law_at : List Str := ["_law_script", "_law_k"]
theorem sc_law_at : FnScope N_law_at ["_law_script", "_law_k"] (defScope s_law_at) := ⟨rfl, rfl, rfl, by decide +kernel, rfl, by decide +kernel, by decide +kernel⟩
abbrev s_law_nails : Stmt := topS 19
abbrev N_law_nails : List Str := ["_law_cell", "_law_many", "_law_letters", "_law_step", "_law_k"]
theorem sc_law_nails : FnScope N_law_nails ["_law_cell", "_law_many"] (defScope s_law_nails) := ⟨rfl, rfl, rfl, by decide +kernel, rfl, by decide +kernel, by decide +kernel⟩
abbrev s_law_set : Stmt := topS 20
abbrev N_law_set : List Str := ["_law_mask", "_law_some", "_law_k"]
theorem sc_law_set : FnScope N_law_set ["_law_mask", "_law_some"] (defScope s_law_set) := ⟨rfl, rfl, rfl, by decide +kernel, rfl, by decide +kernel, by decide +kernel⟩
abbrev s_law_stir : Stmt := topS 18
abbrev N_law_stir : List Str := ["_law_cell", "_law_k", "_law_value"]
theorem sc_law_stir : FnScope N_law_stir ["_law_cell", "_law_k"] (defScope s_law_stir) := ⟨rfl, rfl, rfl, by decide +kernel, rfl, by decide +kernel, by decide +kernel⟩
abbrev s_law_family : Stmt := topS 21
abbrev N_law_family : List Str := ["_law_script", "_law_some", "_law_family_here", "_law_cell", "_law_rest", "_law_many", "_law_k", "_law_one", "_law_value", "_law_picks", "_law_place"]
theorem sc_law_family : FnScope N_law_family ["_law_script", "_law_some"] (defScope s_law_family) := ⟨rfl, rfl, rfl, by decide +kernel, rfl, by decide +kernel, by decide +kernel⟩
abbrev s_by_size : Stmt := topS 9
abbrev N_by_size : List Str := ["one"]
theorem sc_by_size : FnScope N_by_size ["one"] (defScope s_by_size) := ⟨rfl, rfl, rfl, by decide +kernel, rfl, by decide +kernel, by decide +kernel⟩
abbrev s_is_part : Stmt := topS 10
abbrev N_is_part : List Str := ["one", "other", "nail"]
theorem sc_is_part : FnScope N_is_part ["one", "other"] (defScope s_is_part) := ⟨rfl, rfl, rfl, by decide +kernel, rfl, by decide +kernel, by decide +kernel⟩
abbrev s_has_part : Stmt := topS 11
abbrev N_has_part : List Str := ["one", "sets", "other"]
theorem sc_has_part : FnScope N_has_part ["one", "sets"] (defScope s_has_part) := ⟨rfl, rfl, rfl, by decide +kernel, rfl, by decide +kernel, by decide +kernel⟩
abbrev s_least_of : Stmt := topS 12
abbrev N_least_of : List Str := ["sets", "kept", "one"]
theorem sc_least_of : FnScope N_least_of ["sets"] (defScope s_least_of) := ⟨rfl, rfl, rfl, by decide +kernel, rfl, by decide +kernel, by decide +kernel⟩
abbrev s_set_of : Stmt := topS 6
abbrev N_set_of : List Str := ["nails", "sign"]
theorem sc_set_of : FnScope N_set_of ["nails"] (defScope s_set_of) := ⟨rfl, rfl, rfl, by decide +kernel, rfl, by decide +kernel, by decide +kernel⟩
abbrev s_check_few : Stmt := topS 13
abbrev N_check_few : List Str := ["nails"]
theorem sc_check_few : FnScope N_check_few ["nails"] (defScope s_check_few) := ⟨rfl, rfl, rfl, by decide +kernel, rfl, by decide +kernel, by decide +kernel⟩
abbrev s_meeting_sets : Stmt := topS 15
abbrev N_meeting_sets : List Str := ["family", "sets", "found", "one", "grown", "had", "nail"]
theorem sc_meeting_sets : FnScope N_meeting_sets ["family"] (defScope s_meeting_sets) := ⟨rfl, rfl, rfl, by decide +kernel, rfl, by decide +kernel, by decide +kernel⟩
abbrev s_law_meets : Stmt := topS 22
abbrev N_law_meets : List Str := ["_law_one", "_law_other", "_law_nail"]
theorem sc_law_meets : FnScope N_law_meets ["_law_one", "_law_other"] (defScope s_law_meets) := ⟨rfl, rfl, rfl, by decide +kernel, rfl, by decide +kernel, by decide +kernel⟩
abbrev s_law_is_least : Stmt := topS 23
abbrev N_law_is_least : List Str := ["_law_one", "_law_family_here", "_law_nail", "_law_other"]
theorem sc_law_is_least : FnScope N_law_is_least ["_law_one", "_law_family_here"] (defScope s_law_is_least) := ⟨rfl, rfl, rfl, by decide +kernel, rfl, by decide +kernel, by decide +kernel⟩
abbrev s_least_sets : Stmt := topS 14
abbrev N_least_sets : List Str := ["family", "one"]
theorem sc_least_sets : FnScope N_least_sets ["family"] (defScope s_least_sets) := ⟨rfl, rfl, rfl, by decide +kernel, rfl, by decide +kernel, by decide +kernel⟩
abbrev s_law : Stmt := topS 24
abbrev N_law : List Str := ["_law_script", "_law_many", "_law_some", "_law_family_here", "_law_found", "_law_one", "_law_least"]
theorem sc_law : FnScope N_law ["_law_script"] (defScope s_law) := ⟨rfl, rfl, rfl, by decide +kernel, rfl, by decide +kernel, by decide +kernel⟩
structure Txt (K : PySem.W.Frag) (mg : Str → Option Value) (fa : Nat → Addr) (fd : Nat → FuncData) (ca : Nat → Addr) : Prop where
  m_all : mg "all" = none
  m_any : mg "any" = none
  m_isinstance : mg "isinstance" = none
  m_len : mg "len" = none
  m_list : mg "list" = none
  m_min : mg "min" = none
  m_range : mg "range" = none
  m_set : mg "set" = none
  m_sorted : mg "sorted" = none
  m_str : mg "str" = none
  c_MOST : ∃ t, mg "MOST" = some (.int 10 t)
  c_NAILS : ∃ t, mg "NAILS" = some (.str "abcdefghijklmnopqrstuvwxyz" t)
  x_NoNails : ExcC K mg "NoNails" (ca 0)
  x_TooMany : ExcC K mg "TooMany" (ca 1)
  g_law_at : mg "_law_at" = some (.ref (fa 0))
  F_law_at : Fun K "_law_at" "_law_at" s_law_at (fa 0) (fd 0)
  b_law_at : Binds K (fd 0) ["_law_script", "_law_k"] []
  g_law_nails : mg "_law_nails" = some (.ref (fa 1))
  F_law_nails : Fun K "_law_nails" "_law_nails" s_law_nails (fa 1) (fd 1)
  b_law_nails : Binds K (fd 1) ["_law_cell", "_law_many"] []
  g_law_set : mg "_law_set" = some (.ref (fa 2))
  F_law_set : Fun K "_law_set" "_law_set" s_law_set (fa 2) (fd 2)
  b_law_set : Binds K (fd 2) ["_law_mask", "_law_some"] []
  g_law_stir : mg "_law_stir" = some (.ref (fa 3))
  F_law_stir : Fun K "_law_stir" "_law_stir" s_law_stir (fa 3) (fd 3)
  b_law_stir : Binds K (fd 3) ["_law_cell", "_law_k"] []
  g_law_family : mg "_law_family" = some (.ref (fa 4))
  F_law_family : Fun K "_law_family" "_law_family" s_law_family (fa 4) (fd 4)
  b_law_family : Binds K (fd 4) ["_law_script", "_law_some"] []
  g_by_size : mg "by_size" = some (.ref (fa 5))
  F_by_size : Fun K "by_size" "by_size" s_by_size (fa 5) (fd 5)
  b_by_size : Binds K (fd 5) ["one"] []
  g_is_part : mg "is_part" = some (.ref (fa 6))
  F_is_part : Fun K "is_part" "is_part" s_is_part (fa 6) (fd 6)
  b_is_part : Binds K (fd 6) ["one", "other"] []
  g_has_part : mg "has_part" = some (.ref (fa 7))
  F_has_part : Fun K "has_part" "has_part" s_has_part (fa 7) (fd 7)
  b_has_part : Binds K (fd 7) ["one", "sets"] []
  g_least_of : mg "least_of" = some (.ref (fa 8))
  F_least_of : Fun K "least_of" "least_of" s_least_of (fa 8) (fd 8)
  b_least_of : Binds K (fd 8) ["sets"] []
  g_set_of : mg "set_of" = some (.ref (fa 9))
  F_set_of : Fun K "set_of" "set_of" s_set_of (fa 9) (fd 9)
  b_set_of : Binds K (fd 9) ["nails"] []
  g_check_few : mg "check_few" = some (.ref (fa 10))
  F_check_few : Fun K "check_few" "check_few" s_check_few (fa 10) (fd 10)
  b_check_few : Binds K (fd 10) ["nails"] []
  g_meeting_sets : mg "meeting_sets" = some (.ref (fa 11))
  F_meeting_sets : Fun K "meeting_sets" "meeting_sets" s_meeting_sets (fa 11) (fd 11)
  b_meeting_sets : Binds K (fd 11) ["family"] []
  g_law_meets : mg "_law_meets" = some (.ref (fa 12))
  F_law_meets : Fun K "_law_meets" "_law_meets" s_law_meets (fa 12) (fd 12)
  b_law_meets : Binds K (fd 12) ["_law_one", "_law_other"] []
  g_law_is_least : mg "_law_is_least" = some (.ref (fa 13))
  F_law_is_least : Fun K "_law_is_least" "_law_is_least" s_law_is_least (fa 13) (fd 13)
  b_law_is_least : Binds K (fd 13) ["_law_one", "_law_family_here"] []
  g_least_sets : mg "least_sets" = some (.ref (fa 14))
  F_least_sets : Fun K "least_sets" "least_sets" s_least_sets (fa 14) (fd 14)
  b_least_sets : Binds K (fd 14) ["family"] []
  g_law : mg "law" = some (.ref (fa 15))
  F_law : Fun K "law" "law" s_law (fa 15) (fd 15)
  b_law : Binds K (fd 15) ["_law_script"] []
section
variable {P : Program} {w : World} {K : PySem.W.Frag} {mg : Str → Option Value} {base : Heap} {fa : Nat → Addr} {fd : Nat → FuncData} {ca : Nat → Addr} {tb : List (Addr × Str)} {cc : Str → Addr}
theorem ok_law_at (T : Txt K mg fa fd ca) : FnOk P w K mg base (L2N.CX P w) 1 (fa 0) (fd 0) ["_law_script", "_law_k"] (@spOf ⟨K, tb, cc⟩ mg SP_law_at) := by
  letI : KC := ⟨K, tb, cc⟩
  have nd := sc_law_at.nd
  refine fn_ok T.F_law_at sc_law_at len_law_at (fun cdv A outer s H E hr xk => ⟨W_law_at, ?_, pure_law_at⟩)
  exact (sds_cons (sd_if (td_cmp dLt (bd (ed_var 1)) (bd (ed_callB cLen rfl T.m_len (by decide +kernel) (ab_cons (bd (ed_var 0)) ab_nil))))
  (sds_one (sd_ret (ed_ix (bd (ed_var 0)) (bd (ed_var 1)))))
  sds_nil)
  (sds_one (sd_ret ed_int)))
theorem ok_law_nails (T : Txt K mg fa fd ca) : FnOk P w K mg base (L2N.CX P w) 1 (fa 1) (fd 1) ["_law_cell", "_law_many"] (@spOf ⟨K, tb, cc⟩ mg SP_law_nails) := by
  letI : KC := ⟨K, tb, cc⟩
  have nd := sc_law_nails.nd
  refine fn_ok T.F_law_nails sc_law_nails len_law_nails (fun cdv A outer s H E hr xk => ⟨W_law_nails, ?_, pure_law_nails⟩)
  exact (sds_cons (sd_set 2 nd ed_str)
  (sds_cons (sd_set 3 nd (ed_ix (bd (ed_new (df_lst (ad_cons ed_int (ad_cons ed_int (ad_cons ed_int (ad_cons ed_int (ad_cons ed_int (ad_cons ed_int (ad_cons ed_int (ad_cons ed_int (ad_cons ed_int (ad_cons ed_int (ad_cons ed_int (ad_cons ed_int ad_nil))))))))))))))) (bd (ed_op dMod (bd (ed_op dDiv (bd (ed_var 0)) (bd ed_int))) (bd ed_int)))))
  (sds_one (sd_retF (df_lc rfl nd (id_range1 rfl T.m_range (ed_var 1)) (blkOk_by (own := [("_law_k", 4)]) (N := N_law_nails) (sc := defScope s_law_nails) (by decide +kernel)) (fun _ _ _ _ _ => (gd_name 4 nd)) (fun _ _ _ _ _ => (ed_ix (bd (ed_var 2)) (bd (ed_op dMod (bd (ed_op dAdd (bd (ed_var 0)) (bd (ed_op dMul (bd (ed_var 4)) (bd (ed_var 3)))))) (bd ed_int))))))))))
theorem ok_law_set (T : Txt K mg fa fd ca) : FnOk P w K mg base (L2N.CX P w) 1 (fa 2) (fd 2) ["_law_mask", "_law_some"] (@spOf ⟨K, tb, cc⟩ mg SP_law_set) := by
  letI : KC := ⟨K, tb, cc⟩
  have nd := sc_law_set.nd
  refine fn_ok T.F_law_set sc_law_set len_law_set (fun cdv A outer s H E hr xk => ⟨W_law_set, ?_, pure_law_set⟩)
  exact (sds_one (sd_ret (ed_join (bd ed_str) (bd (ed_new (df_lcIf rfl nd (id_range1 rfl T.m_range (ed_callB cLen rfl T.m_len (by decide +kernel) (ab_cons (bd (ed_var 1)) ab_nil))) (blkOk_by (own := [("_law_k", 2)]) (N := N_law_set) (sc := defScope s_law_set) (by decide +kernel)) (fun _ _ _ _ _ => (gd_name 2 nd)) (fun _ _ _ _ _ => (td_cmp (dEq hr) (bd (ed_op dAnd (bd (ed_op dShr (bd (ed_var 0)) (bd (ed_var 2)))) (bd ed_int))) (bd ed_int))) (fun _ _ _ _ _ => (ed_ix (bd (ed_var 1)) (bd (ed_var 2))))))))))
theorem ok_law_stir (T : Txt K mg fa fd ca) : FnOk P w K mg base (L2N.CX P w) 1 (fa 3) (fd 3) ["_law_cell", "_law_k"] (@spOf ⟨K, tb, cc⟩ mg SP_law_stir) := by
  letI : KC := ⟨K, tb, cc⟩
  have nd := sc_law_stir.nd
  refine fn_ok T.F_law_stir sc_law_stir len_law_stir (fun cdv A outer s H E hr xk => ⟨W_law_stir, ?_, pure_law_stir⟩)
  exact (sds_cons (sd_set 2 nd (ed_op dMod (bd (ed_op dAdd (bd (ed_op dAdd (bd (ed_op dAdd (bd (ed_op dMod (bd (ed_var 0)) (bd ed_int))) (bd (ed_op dMul (bd ed_int) (bd (ed_var 1)))))) (bd (ed_op dMul (bd (ed_var 1)) (bd (ed_var 1)))))) (bd ed_int))) (bd ed_int)))
  (sds_cons (sd_set 2 nd (ed_op dMod (bd (ed_op dMul (bd (ed_var 2)) (bd (ed_var 2)))) (bd ed_int)))
  (sds_one (sd_ret (ed_op dDiv (bd (ed_op dMod (bd (ed_op dAdd (bd (ed_op dMul (bd (ed_var 2)) (bd ed_int))) (bd (ed_op dMul (bd ed_int) (bd (ed_var 1)))))) (bd ed_int))) (bd ed_int))))))
theorem ok_law_family (T : Txt K mg fa fd ca) : FnOk P w K mg base (L2N.CX P w) 2 (fa 4) (fd 4) ["_law_script", "_law_some"] (@spOf ⟨K, tb, cc⟩ mg SP_law_family) := by
  letI : KC := ⟨K, tb, cc⟩
  have nd := sc_law_family.nd
  refine fn_ok T.F_law_family sc_law_family len_law_family (fun cdv A outer s H E hr xk => ⟨W_law_family, ?_, pure_law_family⟩)
  exact (sds_cons (sd_setF 2 nd (df_lst ad_nil))
  (sds_cons (sd_set 3 nd (ed_call (ok_law_at T) (hr.mono (by omega)) xk rfl T.g_law_at T.F_law_at.kp T.b_law_at (ad_cons (ed_var 0) (ad_cons ed_int ad_nil))))
  (sds_cons (sd_set 4 nd (ed_op dDiv (bd (ed_var 3)) (bd ed_int)))
  (sds_cons (sd_set 5 nd (ed_op dMod (bd (ed_op dDiv (bd (ed_var 3)) (bd ed_int))) (bd ed_int)))
  (sds_cons (sd_if (td_cmp dGt (bd (ed_callB cLen rfl T.m_len (by decide +kernel) (ab_cons (bd (ed_var 1)) ab_nil))) (bd ed_int))
  (sds_one (sd_set 5 nd (ed_callB (cMin rfl) rfl T.m_min (by decide +kernel) (ab_cons (bd (ed_var 5)) (ab_cons (bd ed_int) ab_nil)))))
  sds_nil)
  (sds_cons (sd_for xk rfl (id_range1 rfl T.m_range (ed_var 5)) (gd_name 6 nd)
  (sds_cons (sd_if (td_w (wd_and (td_cmp dLt (bd (ed_callB cLen rfl T.m_len (by decide +kernel) (ab_cons (bd (ed_var 1)) ab_nil))) (bd ed_int)) (wd_and1 (td_not (td_chain dLt dLt (bd (ed_un un_neg (ed_op dPow (bd ed_int) (bd ed_int)))) (bd (ed_var 3)) (bd (ed_op dPow (bd ed_int) (bd ed_int))))))))
  (sds_cons (sd_set 7 nd (ed_call (ok_law_set T) (hr.mono (by omega)) xk rfl T.g_law_set T.F_law_set.kp T.b_law_set (ad_cons (ed_op dMod (bd (ed_var 4)) (bd (ed_op dShl (bd ed_int) (bd (ed_callB cLen rfl T.m_len (by decide +kernel) (ab_cons (bd (ed_var 1)) ab_nil)))))) (ad_cons (ed_var 1) ad_nil))))
  (sds_one (sd_set 4 nd (ed_op dDiv (bd (ed_var 4)) (bd (ed_op dShl (bd ed_int) (bd (ed_callB cLen rfl T.m_len (by decide +kernel) (ab_cons (bd (ed_var 1)) ab_nil)))))))))
  (sds_cons (sd_set 8 nd (ed_call (ok_law_stir T) (hr.mono (by omega)) xk rfl T.g_law_stir T.F_law_stir.kp T.b_law_stir (ad_cons (ed_call (ok_law_at T) (hr.mono (by omega)) xk rfl T.g_law_at T.F_law_at.kp T.b_law_at (ad_cons (ed_var 0) (ad_cons (ed_op dAdd (bd ed_int) (bd (ed_var 6))) ad_nil))) (ad_cons (ed_var 6) ad_nil))))
  (sds_cons (sd_setLc 9 rfl nd (id_tup (ed_tup (ad_cons ed_int (ad_cons ed_int (ad_cons ed_int (ad_cons ed_int ad_nil)))))) (blkOk_by (own := [("_law_place", 10)]) (N := N_law_family) (sc := defScope s_law_family) (by decide +kernel)) (fun _ _ _ _ _ => (gd_name 10 nd)) (fun _ _ _ _ _ => (ed_ix (bd (ed_var 1)) (bd (ed_op dMod (bd (ed_op dDiv (bd (ed_var 8)) (bd (ed_var 10)))) (bd (ed_callB cLen rfl T.m_len (by decide +kernel) (ab_cons (bd (ed_var 1)) ab_nil))))))))
  (sds_frz 9 (sds_one (sd_set 7 nd (ed_join (bd ed_str) (bd (ed_new (df_sortSet rfl hr rfl T.m_sorted rfl T.m_set (bd (ed_sl (bd (ed_var 9)) od_none (od_some (bd (ed_op dAdd (bd ed_int) (bd (ed_op dMod (bd (ed_op dDiv (bd (ed_var 8)) (bd ed_int))) (bd ed_int))))))))))))))))))
  (sds_one (sd_if (td_w (wd_or (td_cmp (dNe hr) (bd (ed_var 7)) (bd ed_str)) (wd_or1 (td_cmp (dEq hr) (bd (ed_op dMod (bd (ed_op dDiv (bd (ed_call (ok_law_at T) (hr.mono (by omega)) xk rfl T.g_law_at T.F_law_at.kp T.b_law_at (ad_cons (ed_var 0) (ad_cons ed_int ad_nil)))) (bd ed_int))) (bd ed_int))) (bd ed_int)))))
  (sds_one (sd_mut 2 mApp PySem.F.slot_list_append PySem.F.type_list_append (ad_cons (ed_var 7) ad_nil)))
  sds_nil))))
  (sds_one (sd_retOwn 2))))))))
theorem ok_by_size (T : Txt K mg fa fd ca) : FnOk P w K mg base (L2N.CX P w) 1 (fa 5) (fd 5) ["one"] (@spOf ⟨K, tb, cc⟩ mg SP_by_size) := by
  letI : KC := ⟨K, tb, cc⟩
  have nd := sc_by_size.nd
  refine fn_ok T.F_by_size sc_by_size len_by_size (fun cdv A outer s H E hr xk => ⟨W_by_size, ?_, pure_by_size⟩)
  exact (sds_one (sd_ret (ed_tup (ad_cons (ed_callB cLen rfl T.m_len (by decide +kernel) (ab_cons (bd (ed_var 0)) ab_nil)) (ad_cons (ed_var 0) ad_nil)))))
theorem ok_is_part (T : Txt K mg fa fd ca) : FnOk P w K mg base (L2N.CX P w) 1 (fa 6) (fd 6) ["one", "other"] (@spOf ⟨K, tb, cc⟩ mg SP_is_part) := by
  letI : KC := ⟨K, tb, cc⟩
  have nd := sc_is_part.nd
  refine fn_ok T.F_is_part sc_is_part len_is_part (fun cdv A outer s H E hr xk => ⟨W_is_part, ?_, pure_is_part⟩)
  exact (sds_cons (sd_for xk rfl (id_str (ed_var 0)) (gd_name 2 nd)
  (sds_one (sd_if (td_cmp dNotInS (bd (ed_var 2)) (bd (ed_var 1)))
  (sds_one (sd_ret ed_bl))
  sds_nil)))
  (sds_one (sd_ret ed_bl)))
theorem ok_has_part (T : Txt K mg fa fd ca) : FnOk P w K mg base (L2N.CX P w) 2 (fa 7) (fd 7) ["one", "sets"] (@spOf ⟨K, tb, cc⟩ mg SP_has_part) := by
  letI : KC := ⟨K, tb, cc⟩
  have nd := sc_has_part.nd
  refine fn_ok T.F_has_part sc_has_part len_has_part (fun cdv A outer s H E hr xk => ⟨W_has_part, ?_, pure_has_part⟩)
  exact (sds_cons (sd_for xk rfl (id_list (ed_var 1)) (gd_name 2 nd)
  (sds_one (sd_if (td_val (bd (ed_call (ok_is_part T) (hr.mono (by omega)) xk rfl T.g_is_part T.F_is_part.kp T.b_is_part (ad_cons (ed_var 2) (ad_cons (ed_var 0) ad_nil)))))
  (sds_one (sd_ret ed_bl))
  sds_nil)))
  (sds_one (sd_ret ed_bl)))
theorem ok_least_of (T : Txt K mg fa fd ca) : FnOk P w K mg base (L2N.CX P w) 5 (fa 8) (fd 8) ["sets"] (@spOf ⟨K, tb, cc⟩ mg SP_least_of) := by
  letI : KC := ⟨K, tb, cc⟩
  have nd := sc_least_of.nd
  refine fn_ok T.F_least_of sc_least_of len_least_of (fun cdv A outer s H E hr xk => ⟨W_least_of, ?_, pure_least_of⟩)
  exact (sds_cons (sd_setF 1 nd (df_lst ad_nil))
  (sds_cons (sd_for xk rfl (id_list (ed_new (df_sortK (ok_by_size T) (hr.mono (by omega)) T.b_by_size rfl T.m_sorted rfl T.g_by_size (bd (ed_new (df_sortSet rfl hr rfl T.m_sorted rfl T.m_set (bd (ed_var 0)))))))) (gd_name 2 nd)
  (sds_one (sd_if (td_not (td_val (bd (ed_callN (ok_has_part T) (hr.mono (by omega)) xk rfl T.g_has_part T.F_has_part.kp T.b_has_part (ab_cons (bd (ed_var 2)) (ab_cons (bd_own 1) ab_nil))))))
  (sds_one (sd_mut 1 mApp PySem.F.slot_list_append PySem.F.type_list_append (ad_cons (ed_var 2) ad_nil)))
  sds_nil)))
  (sds_one (sd_retOwn 1))))
theorem ok_set_of (T : Txt K mg fa fd ca) : FnOk P w K mg base (L2N.CX P w) 1 (fa 9) (fd 9) ["nails"] (@spOf ⟨K, tb, cc⟩ mg SP_set_of) := by
  letI : KC := ⟨K, tb, cc⟩
  have nd := sc_set_of.nd
  refine fn_ok T.F_set_of sc_set_of len_set_of (fun cdv A outer s H E hr xk => ⟨W_set_of, ?_, pure_set_of⟩)
  exact (sds_cons (sd_if (td_not (td_val (bd (ed_isT rfl T.m_isinstance rfl T.m_str (by decide +kernel) (bd (ed_var 0))))))
  (sds_one (sd_raise xk rfl T.x_NoNails rfl))
  sds_nil)
  (sds_cons (sd_for xk rfl (id_str (ed_var 0)) (gd_name 1 nd)
  (sds_one (sd_if (td_cmp dNotInS (bd (ed_var 1)) (bd (ed_globS rfl T.c_NAILS)))
  (sds_one (sd_raise xk rfl T.x_NoNails rfl))
  sds_nil)))
  (sds_one (sd_ret (ed_join (bd ed_str) (bd (ed_new (df_sortSet rfl hr rfl T.m_sorted rfl T.m_set (bd (ed_var 0))))))))))
theorem ok_check_few (T : Txt K mg fa fd ca) : FnOk P w K mg base (L2N.CX P w) 1 (fa 10) (fd 10) ["nails"] (@spOf ⟨K, tb, cc⟩ mg SP_check_few) := by
  letI : KC := ⟨K, tb, cc⟩
  have nd := sc_check_few.nd
  refine fn_ok T.F_check_few sc_check_few len_check_few (fun cdv A outer s H E hr xk => ⟨W_check_few, ?_, pure_check_few⟩)
  exact (sds_one (sd_if (td_cmp dGt (bd (ed_lenSet rfl rfl T.m_len rfl T.m_set (bd (ed_var 0)))) (bd (ed_globI rfl T.c_MOST)))
  (sds_one (sd_raise xk rfl T.x_TooMany rfl))
  sds_nil))
theorem ok_meeting_sets (T : Txt K mg fa fd ca) : FnOk P w K mg base (L2N.CX P w) 6 (fa 11) (fd 11) ["family"] (@spOf ⟨K, tb, cc⟩ mg SP_meeting_sets) := by
  letI : KC := ⟨K, tb, cc⟩
  have nd := sc_meeting_sets.nd
  refine fn_ok T.F_meeting_sets sc_meeting_sets len_meeting_sets (fun cdv A outer s H E hr xk => ⟨W_meeting_sets, ?_, pure_meeting_sets⟩)
  exact (sds_cons (sd_set 1 nd (ed_call (ok_least_of T) (hr.mono (by omega)) xk rfl T.g_least_of T.F_least_of.kp T.b_least_of (ad_cons (ed_new (df_lc rfl nd (id_list (ed_var 0)) (blkOk_by (own := [("one", 3)]) (N := N_meeting_sets) (sc := defScope s_meeting_sets) (by decide +kernel)) (fun _ _ _ _ _ => (gd_name 3 nd)) (fun _ _ _ _ _ => (ed_call (ok_set_of T) (hr.mono (by omega)) xkb rfl T.g_set_of T.F_set_of.kp T.b_set_of (ad_cons (ed_var 3) ad_nil))))) ad_nil)))
  (sds_cons (sd_expr (ed_call (ok_check_few T) (hr.mono (by omega)) xk rfl T.g_check_few T.F_check_few.kp T.b_check_few (ad_cons (ed_join (bd ed_str) (bd (ed_new (df_lc rfl nd (id_list (ed_var 0)) (blkOk_by (own := [("one", 3)]) (N := N_meeting_sets) (sc := defScope s_meeting_sets) (by decide +kernel)) (fun _ _ _ _ _ => (gd_name 3 nd)) (fun _ _ _ _ _ => (ed_call (ok_set_of T) (hr.mono (by omega)) xkb rfl T.g_set_of T.F_set_of.kp T.b_set_of (ad_cons (ed_var 3) ad_nil))))))) ad_nil)))
  (sds_cons (sd_setF 2 nd (df_lst (ad_cons ed_str ad_nil)))
  (sds_cons (sd_for xk rfl (id_list (ed_var 1)) (gd_name 3 nd)
  (sds_cons (sd_setF 4 nd (df_lst ad_nil))
  (sds_frz 2 (sds_cons (sd_for xk rfl (id_list (ed_var 2)) (gd_name 5 nd)
  (sds_one (sd_if (td_val (bd (ed_callB (cAny rfl) rfl T.m_any (by decide +kernel) (ab_cons (bd (ed_new (df_lc rfl nd (id_str (ed_var 5)) (blkOk_by (own := [("nail", 6)]) (N := N_meeting_sets) (sc := defScope s_meeting_sets) (by decide +kernel)) (fun _ _ _ _ _ => (gd_name 6 nd)) (fun _ _ _ _ _ => (ed_cmp dInS (bd (ed_var 6)) (bd (ed_var 3))))))) ab_nil))))
  (sds_one (sd_mut 4 mApp PySem.F.slot_list_append PySem.F.type_list_append (ad_cons (ed_var 5) ad_nil)))
  (sds_one (sd_mut 4 mExt PySem.F.slot_list_extend PySem.F.type_list_extend (ad_cons (ed_new (df_lc rfl nd (id_str (ed_var 3)) (blkOk_by (own := [("nail", 6)]) (N := N_meeting_sets) (sc := defScope s_meeting_sets) (by decide +kernel)) (fun _ _ _ _ _ => (gd_name 6 nd)) (fun _ _ _ _ _ => (ed_call (ok_set_of T) (hr.mono (by omega)) xkb rfl T.g_set_of T.F_set_of.kp T.b_set_of (ad_cons (ed_op dAdd (bd (ed_var 5)) (bd (ed_var 6))) ad_nil))))) ad_nil))))))
  (sds_frz 4 (sds_one (sd_setF 2 nd (df_call (ok_least_of T) (hr.mono (by omega)) xk rfl T.g_least_of T.F_least_of.kp T.b_least_of (ad_cons (ed_var 4) ad_nil)))))))))
  (sds_one (sd_retOwn 2))))))
theorem ok_law_meets (T : Txt K mg fa fd ca) : FnOk P w K mg base (L2N.CX P w) 1 (fa 12) (fd 12) ["_law_one", "_law_other"] (@spOf ⟨K, tb, cc⟩ mg SP_law_meets) := by
  letI : KC := ⟨K, tb, cc⟩
  have nd := sc_law_meets.nd
  refine fn_ok T.F_law_meets sc_law_meets len_law_meets (fun cdv A outer s H E hr xk => ⟨W_law_meets, ?_, pure_law_meets⟩)
  exact (sds_one (sd_ret (ed_callB (cAny rfl) rfl T.m_any (by decide +kernel) (ab_cons (bd (ed_new (df_lc rfl nd (id_str (ed_var 0)) (blkOk_by (own := [("_law_nail", 2)]) (N := N_law_meets) (sc := defScope s_law_meets) (by decide +kernel)) (fun _ _ _ _ _ => (gd_name 2 nd)) (fun _ _ _ _ _ => (ed_cmp dInS (bd (ed_var 2)) (bd (ed_var 1))))))) ab_nil))))
theorem ok_law_is_least (T : Txt K mg fa fd ca) : FnOk P w K mg base (L2N.CX P w) 2 (fa 13) (fd 13) ["_law_one", "_law_family_here"] (@spOf ⟨K, tb, cc⟩ mg SP_law_is_least) := by
  letI : KC := ⟨K, tb, cc⟩
  have nd := sc_law_is_least.nd
  refine fn_okT2 T.F_law_is_least sc_law_is_least rfl (by rfl) (by rfl) len_law_is_least (fun cdv A outer s H E hr xk => ⟨W_law_is_least, ?_, pure_law_is_least⟩)
  exact (sds_consT (sd_if (td_not (td_val (bd (ed_callB (cAll rfl) rfl T.m_all (by decide +kernel) (ab_cons (bd (ed_new (df_lc rfl nd (id_list (ed_var 1)) (blkOk_by (own := [("_law_other", 3)]) (N := N_law_is_least) (sc := defScope s_law_is_least) (by decide +kernel)) (fun _ _ _ _ _ => (gd_name 3 nd)) (fun _ _ _ _ _ => (ed_call (ok_law_meets T) (hr.mono (by omega)) xkb rfl T.g_law_meets T.F_law_meets.kp T.b_law_meets (ad_cons (ed_var 0) (ad_cons (ed_var 3) ad_nil))))))) ab_nil)))))
  (sds_one (sd_ret ed_bl))
  sds_nil)
  (sds_consT1 (sd_forC 0 2 xk rfl nd (td_valR (ed_anyR (cAll rfl) rfl T.m_all (by decide +kernel) (df_lcC (i1 := 1) rfl nd (blkOk_by (own := [("_law_other", 3)]) (N := N_law_is_least) (sc := defScope s_law_is_least) (by decide +kernel)) (fun _ _ _ _ _ => (rawF_call 0 2 3 (ok_law_meets T) (hr.mono (by omega)) xkb.pass rfl T.g_law_meets T.F_law_meets.kp T.b_law_meets))))) (sds_one (sd_ret ed_bl)))
  (sds_one (sd_ret ed_bl))))
theorem ok_least_sets (T : Txt K mg fa fd ca) : FnOk P w K mg base (L2N.CX P w) 6 (fa 14) (fd 14) ["family"] (@spOf ⟨K, tb, cc⟩ mg SP_least_sets) := by
  letI : KC := ⟨K, tb, cc⟩
  have nd := sc_least_sets.nd
  refine fn_ok T.F_least_sets sc_least_sets len_least_sets (fun cdv A outer s H E hr xk => ⟨W_least_sets, ?_, pure_least_sets⟩)
  exact (sds_one (sd_retF (df_call (ok_least_of T) (hr.mono (by omega)) xk rfl T.g_least_of T.F_least_of.kp T.b_least_of (ad_cons (ed_new (df_lc rfl nd (id_list (ed_var 0)) (blkOk_by (own := [("one", 1)]) (N := N_least_sets) (sc := defScope s_least_sets) (by decide +kernel)) (fun _ _ _ _ _ => (gd_name 1 nd)) (fun _ _ _ _ _ => (ed_call (ok_set_of T) (hr.mono (by omega)) xkb rfl T.g_set_of T.F_set_of.kp T.b_set_of (ad_cons (ed_var 1) ad_nil))))) ad_nil))))
theorem ok_law (T : Txt K mg fa fd ca) : FnOk P w K mg base (L2N.CX P w) 7 (fa 15) (fd 15) ["_law_script"] (@spOf ⟨K, tb, cc⟩ mg SP_law) := by
  letI : KC := ⟨K, tb, cc⟩
  have nd := sc_law.nd
  refine fn_ok T.F_law sc_law len_law (fun cdv A outer s H E hr xk => ⟨W_law, ?_, pure_law⟩)
  exact (sds_cons (sd_set 1 nd (ed_op dAdd (bd ed_int) (bd (ed_op dMod (bd (ed_call (ok_law_at T) (hr.mono (by omega)) xk rfl T.g_law_at T.F_law_at.kp T.b_law_at (ad_cons (ed_var 0) (ad_cons ed_int ad_nil)))) (bd ed_int)))))
  (sds_cons (sd_if (td_cmp (dEq hr) (bd (ed_op dMod (bd (ed_op dDiv (bd (ed_call (ok_law_at T) (hr.mono (by omega)) xk rfl T.g_law_at T.F_law_at.kp T.b_law_at (ad_cons (ed_var 0) (ad_cons ed_int ad_nil)))) (bd ed_int))) (bd ed_int))) (bd ed_int))
  (sds_one (sd_set 1 nd ed_int))
  sds_nil)
  (sds_cons (sd_set 2 nd (ed_new (df_callB (cSorted hr) rfl T.m_sorted (by decide +kernel) (ab_cons (bd (ed_call (ok_law_nails T) (hr.mono (by omega)) xk rfl T.g_law_nails T.F_law_nails.kp T.b_law_nails (ad_cons (ed_call (ok_law_at T) (hr.mono (by omega)) xk rfl T.g_law_at T.F_law_at.kp T.b_law_at (ad_cons (ed_var 0) (ad_cons ed_int ad_nil))) (ad_cons (ed_var 1) ad_nil)))) ab_nil))))
  (sds_cons (sd_set 3 nd (ed_call (ok_law_family T) (hr.mono (by omega)) xk rfl T.g_law_family T.F_law_family.kp T.b_law_family (ad_cons (ed_var 0) (ad_cons (ed_var 2) ad_nil))))
  (sds_cons (sd_set 4 nd (ed_call (ok_meeting_sets T) (hr.mono (by omega)) xk rfl T.g_meeting_sets T.F_meeting_sets.kp T.b_meeting_sets (ad_cons (ed_new (df_callT cListF rfl T.m_list (by decide +kernel) (ab_cons (bd (ed_var 3)) ab_nil))) ad_nil)))
  (sds_cons (sd_if (td_w (wd_or (td_not (td_val (bd (ed_isT rfl T.m_isinstance rfl T.m_list (by decide +kernel) (bd (ed_var 4)))))) (wd_or1 (td_not (td_val (bd (ed_callB (cAll rfl) rfl T.m_all (by decide +kernel) (ab_cons (bd (ed_new (df_lc rfl nd (id_list (ed_var 4)) (blkOk_by (own := [("_law_one", 5)]) (N := N_law) (sc := defScope s_law) (by decide +kernel)) (fun _ _ _ _ _ => (gd_name 5 nd)) (fun _ _ _ _ _ => (ed_isT rfl T.m_isinstance rfl T.m_str (by decide +kernel) (bd (ed_var 5))))))) ab_nil))))))))
  (sds_one (sd_ret ed_bl))
  sds_nil)
  (sds_cons (sd_for xk rfl (id_list (ed_var 4)) (gd_name 5 nd)
  (sds_one (sd_if (td_not (td_val (bd (ed_call (ok_law_is_least T) (hr.mono (by omega)) xk rfl T.g_law_is_least T.F_law_is_least.kp T.b_law_is_least (ad_cons (ed_var 5) (ad_cons (ed_var 3) ad_nil))))))
  (sds_one (sd_ret ed_bl))
  sds_nil)))
  (sds_cons (sd_set 6 nd (ed_call (ok_least_sets T) (hr.mono (by omega)) xk rfl T.g_least_sets T.F_least_sets.kp T.b_least_sets (ad_cons (ed_new (df_callT cListF rfl T.m_list (by decide +kernel) (ab_cons (bd (ed_var 3)) ab_nil))) ad_nil)))
  (sds_one (sd_ret (ed_and (ed_cmp (dEq hr) (bd (ed_call (ok_meeting_sets T) (hr.mono (by omega)) xk rfl T.g_meeting_sets T.F_meeting_sets.kp T.b_meeting_sets (ad_cons (ed_new (df_callT cListF rfl T.m_list (by decide +kernel) (ab_cons (bd (ed_var 4)) ab_nil))) ad_nil))) (bd (ed_var 6))) (ed_one (ed_cmp (dEq hr) (bd (ed_call (ok_meeting_sets T) (hr.mono (by omega)) xk rfl T.g_meeting_sets T.F_meeting_sets.kp T.b_meeting_sets (ad_cons (ed_new (df_callT cListF rfl T.m_list (by decide +kernel) (ab_cons (bd (ed_var 6)) ab_nil))) ad_nil))) (bd (ed_var 4)))))))))))))))
end
theorem all_mk {l : PySem.W.OpenLaw} {w : World} {K : PySem.W.Frag} {h : Heap} {mg : Str → Option Value} {fl : Addr} (X : K.In h) (G : h.Ns mainGlobals mg) (hfl : mg "law" = some (.ref fl))
    {f0 f1 f2 f3 f4 f5 f6 f7 f8 f9 f10 f11 f12 f13 f14 f15 : Addr}
    {od0 an0 od1 an1 od2 an2 od3 an3 od4 an4 od5 an5 od6 an6 od7 an7 od8 an8 od9 an9 od10 an10 od11 an11 od12 an12 od13 an13 od14 an14 od15 an15 : Option Addr} {sl0 sl1 sl2 sl3 sl4 sl5 sl6 sl7 sl8 sl9 sl10 sl11 sl12 sl13 sl14 sl15 : Array (Option Value)} {oc0 kV0 dc0 pm0 ct0 cd0 oc1 kV1 dc1 pm1 ct1 cd1 oc2 kV2 dc2 pm2 ct2 cd2 oc3 kV3 dc3 pm3 ct3 cd3 oc4 kV4 dc4 pm4 ct4 cd4 oc5 kV5 dc5 pm5 ct5 cd5 oc6 kV6 dc6 pm6 ct6 cd6 oc7 kV7 dc7 pm7 ct7 cd7 oc8 kV8 dc8 pm8 ct8 cd8 oc9 kV9 dc9 pm9 ct9 cd9 oc10 kV10 dc10 pm10 ct10 cd10 oc11 kV11 dc11 pm11 ct11 cd11 oc12 kV12 dc12 pm12 ct12 cd12 oc13 kV13 dc13 pm13 ct13 cd13 oc14 kV14 dc14 pm14 ct14 cd14 oc15 kV15 dc15 pm15 ct15 cd15 : Value}
    {c0 c1 : Addr}
    (a0 : PySem.W.nsIn K mainGlobals "_law_at" = some (some (.ref f0))) (l0 : K.lookup f0 = some ⟨oc0, od0, .func (PySem.W.fnOf "_law_at" "_law_at" (defArgs s_law_at) (defBody s_law_at) (defScope s_law_at) .none kV0 dc0 pm0 an0 cd0 ct0), sl0⟩) (c0' : PySem.W.codeIn K cd0 "_law_at" = true) (k0 : PySem.W.keepIn K (.ref f0) = true)
    (a1 : PySem.W.nsIn K mainGlobals "_law_nails" = some (some (.ref f1))) (l1 : K.lookup f1 = some ⟨oc1, od1, .func (PySem.W.fnOf "_law_nails" "_law_nails" (defArgs s_law_nails) (defBody s_law_nails) (defScope s_law_nails) .none kV1 dc1 pm1 an1 cd1 ct1), sl1⟩) (c1' : PySem.W.codeIn K cd1 "_law_nails" = true) (k1 : PySem.W.keepIn K (.ref f1) = true)
    (a2 : PySem.W.nsIn K mainGlobals "_law_set" = some (some (.ref f2))) (l2 : K.lookup f2 = some ⟨oc2, od2, .func (PySem.W.fnOf "_law_set" "_law_set" (defArgs s_law_set) (defBody s_law_set) (defScope s_law_set) .none kV2 dc2 pm2 an2 cd2 ct2), sl2⟩) (c2' : PySem.W.codeIn K cd2 "_law_set" = true) (k2 : PySem.W.keepIn K (.ref f2) = true)
    (a3 : PySem.W.nsIn K mainGlobals "_law_stir" = some (some (.ref f3))) (l3 : K.lookup f3 = some ⟨oc3, od3, .func (PySem.W.fnOf "_law_stir" "_law_stir" (defArgs s_law_stir) (defBody s_law_stir) (defScope s_law_stir) .none kV3 dc3 pm3 an3 cd3 ct3), sl3⟩) (c3' : PySem.W.codeIn K cd3 "_law_stir" = true) (k3 : PySem.W.keepIn K (.ref f3) = true)
    (a4 : PySem.W.nsIn K mainGlobals "_law_family" = some (some (.ref f4))) (l4 : K.lookup f4 = some ⟨oc4, od4, .func (PySem.W.fnOf "_law_family" "_law_family" (defArgs s_law_family) (defBody s_law_family) (defScope s_law_family) .none kV4 dc4 pm4 an4 cd4 ct4), sl4⟩) (c4' : PySem.W.codeIn K cd4 "_law_family" = true) (k4 : PySem.W.keepIn K (.ref f4) = true)
    (a5 : PySem.W.nsIn K mainGlobals "by_size" = some (some (.ref f5))) (l5 : K.lookup f5 = some ⟨oc5, od5, .func (PySem.W.fnOf "by_size" "by_size" (defArgs s_by_size) (defBody s_by_size) (defScope s_by_size) .none kV5 dc5 pm5 an5 cd5 ct5), sl5⟩) (c5' : PySem.W.codeIn K cd5 "by_size" = true) (k5 : PySem.W.keepIn K (.ref f5) = true)
    (a6 : PySem.W.nsIn K mainGlobals "is_part" = some (some (.ref f6))) (l6 : K.lookup f6 = some ⟨oc6, od6, .func (PySem.W.fnOf "is_part" "is_part" (defArgs s_is_part) (defBody s_is_part) (defScope s_is_part) .none kV6 dc6 pm6 an6 cd6 ct6), sl6⟩) (c6' : PySem.W.codeIn K cd6 "is_part" = true) (k6 : PySem.W.keepIn K (.ref f6) = true)
    (a7 : PySem.W.nsIn K mainGlobals "has_part" = some (some (.ref f7))) (l7 : K.lookup f7 = some ⟨oc7, od7, .func (PySem.W.fnOf "has_part" "has_part" (defArgs s_has_part) (defBody s_has_part) (defScope s_has_part) .none kV7 dc7 pm7 an7 cd7 ct7), sl7⟩) (c7' : PySem.W.codeIn K cd7 "has_part" = true) (k7 : PySem.W.keepIn K (.ref f7) = true)
    (a8 : PySem.W.nsIn K mainGlobals "least_of" = some (some (.ref f8))) (l8 : K.lookup f8 = some ⟨oc8, od8, .func (PySem.W.fnOf "least_of" "least_of" (defArgs s_least_of) (defBody s_least_of) (defScope s_least_of) .none kV8 dc8 pm8 an8 cd8 ct8), sl8⟩) (c8' : PySem.W.codeIn K cd8 "least_of" = true) (k8 : PySem.W.keepIn K (.ref f8) = true)
    (a9 : PySem.W.nsIn K mainGlobals "set_of" = some (some (.ref f9))) (l9 : K.lookup f9 = some ⟨oc9, od9, .func (PySem.W.fnOf "set_of" "set_of" (defArgs s_set_of) (defBody s_set_of) (defScope s_set_of) .none kV9 dc9 pm9 an9 cd9 ct9), sl9⟩) (c9' : PySem.W.codeIn K cd9 "set_of" = true) (k9 : PySem.W.keepIn K (.ref f9) = true)
    (a10 : PySem.W.nsIn K mainGlobals "check_few" = some (some (.ref f10))) (l10 : K.lookup f10 = some ⟨oc10, od10, .func (PySem.W.fnOf "check_few" "check_few" (defArgs s_check_few) (defBody s_check_few) (defScope s_check_few) .none kV10 dc10 pm10 an10 cd10 ct10), sl10⟩) (c10' : PySem.W.codeIn K cd10 "check_few" = true) (k10 : PySem.W.keepIn K (.ref f10) = true)
    (a11 : PySem.W.nsIn K mainGlobals "meeting_sets" = some (some (.ref f11))) (l11 : K.lookup f11 = some ⟨oc11, od11, .func (PySem.W.fnOf "meeting_sets" "meeting_sets" (defArgs s_meeting_sets) (defBody s_meeting_sets) (defScope s_meeting_sets) .none kV11 dc11 pm11 an11 cd11 ct11), sl11⟩) (c11' : PySem.W.codeIn K cd11 "meeting_sets" = true) (k11 : PySem.W.keepIn K (.ref f11) = true)
    (a12 : PySem.W.nsIn K mainGlobals "_law_meets" = some (some (.ref f12))) (l12 : K.lookup f12 = some ⟨oc12, od12, .func (PySem.W.fnOf "_law_meets" "_law_meets" (defArgs s_law_meets) (defBody s_law_meets) (defScope s_law_meets) .none kV12 dc12 pm12 an12 cd12 ct12), sl12⟩) (c12' : PySem.W.codeIn K cd12 "_law_meets" = true) (k12 : PySem.W.keepIn K (.ref f12) = true)
    (a13 : PySem.W.nsIn K mainGlobals "_law_is_least" = some (some (.ref f13))) (l13 : K.lookup f13 = some ⟨oc13, od13, .func (PySem.W.fnOf "_law_is_least" "_law_is_least" (defArgs s_law_is_least) (defBody s_law_is_least) (defScope s_law_is_least) .none kV13 dc13 pm13 an13 cd13 ct13), sl13⟩) (c13' : PySem.W.codeIn K cd13 "_law_is_least" = true) (k13 : PySem.W.keepIn K (.ref f13) = true)
    (a14 : PySem.W.nsIn K mainGlobals "least_sets" = some (some (.ref f14))) (l14 : K.lookup f14 = some ⟨oc14, od14, .func (PySem.W.fnOf "least_sets" "least_sets" (defArgs s_least_sets) (defBody s_least_sets) (defScope s_least_sets) .none kV14 dc14 pm14 an14 cd14 ct14), sl14⟩) (c14' : PySem.W.codeIn K cd14 "least_sets" = true) (k14 : PySem.W.keepIn K (.ref f14) = true)
    (a15 : PySem.W.nsIn K mainGlobals "law" = some (some (.ref f15))) (l15 : K.lookup f15 = some ⟨oc15, od15, .func (PySem.W.fnOf "law" "law" (defArgs s_law) (defBody s_law) (defScope s_law) .none kV15 dc15 pm15 an15 cd15 ct15), sl15⟩) (c15' : PySem.W.codeIn K cd15 "law" = true) (k15 : PySem.W.keepIn K (.ref f15) = true)
    (z_all : PySem.W.nsIn K mainGlobals "all" = some none)
    (z_any : PySem.W.nsIn K mainGlobals "any" = some none)
    (z_isinstance : PySem.W.nsIn K mainGlobals "isinstance" = some none)
    (z_len : PySem.W.nsIn K mainGlobals "len" = some none)
    (z_list : PySem.W.nsIn K mainGlobals "list" = some none)
    (z_min : PySem.W.nsIn K mainGlobals "min" = some none)
    (z_range : PySem.W.nsIn K mainGlobals "range" = some none)
    (z_set : PySem.W.nsIn K mainGlobals "set" = some none)
    (z_sorted : PySem.W.nsIn K mainGlobals "sorted" = some none)
    (z_str : PySem.W.nsIn K mainGlobals "str" = some none)
    {t_MOST : Tok} (y_MOST : PySem.W.nsIn K mainGlobals "MOST" = some (some (.int 10 t_MOST)))
    {t_NAILS : Tok} (y_NAILS : PySem.W.nsIn K mainGlobals "NAILS" = some (some (.str "abcdefghijklmnopqrstuvwxyz" t_NAILS)))
    (xa0 : PySem.W.nsIn K mainGlobals "NoNails" = some (some (.ref c0))) (xb0 : PySem.W.excIn K c0 [.type "ValueError", .type "Exception", .type "BaseException", .type "object"] "ValueError.__new__" = true) (xc0 : PySem.W.keepIn K (.ref c0) = true) (xd0 : PySem.W.subIn K (.ref c0) (.type "BaseException") = some true) (xe0 : PySem.W.typeIn K (.ref c0) = some (.type "type"))
    (xa1 : PySem.W.nsIn K mainGlobals "TooMany" = some (some (.ref c1))) (xb1 : PySem.W.excIn K c1 [.type "ValueError", .type "Exception", .type "BaseException", .type "object"] "ValueError.__new__" = true) (xc1 : PySem.W.keepIn K (.ref c1) = true) (xd1 : PySem.W.subIn K (.ref c1) (.type "BaseException") = some true) (xe1 : PySem.W.typeIn K (.ref c1) = some (.type "type"))
    : ∃ fd : FuncData, (∀ (s : Shared) (v : Value), BindsTo s fd ⟨[v], []⟩ [("_law_script", v)]) ∧ ∀ base : Heap, K.In base → base.Ns mainGlobals mg → FnOk l.prog w K mg base (L2N.CX l.prog w) 7 fl fd ["_law_script"] (@spOf ⟨K, [], fun _ => 0⟩ mg SP_law) := by
  have e := hfl.symm.trans (PySem.W.mg_of X G a15)
  cases e
  have F0 := fun_mk (st := s_law_at) l0 c0' k0
  have b0 := F0.binds (ps := ["_law_script", "_law_k"]) fun _ _ _ _ _ _ us hl => match us, hl with | [_, _], _ => rfl
  have F1 := fun_mk (st := s_law_nails) l1 c1' k1
  have b1 := F1.binds (ps := ["_law_cell", "_law_many"]) fun _ _ _ _ _ _ us hl => match us, hl with | [_, _], _ => rfl
  have F2 := fun_mk (st := s_law_set) l2 c2' k2
  have b2 := F2.binds (ps := ["_law_mask", "_law_some"]) fun _ _ _ _ _ _ us hl => match us, hl with | [_, _], _ => rfl
  have F3 := fun_mk (st := s_law_stir) l3 c3' k3
  have b3 := F3.binds (ps := ["_law_cell", "_law_k"]) fun _ _ _ _ _ _ us hl => match us, hl with | [_, _], _ => rfl
  have F4 := fun_mk (st := s_law_family) l4 c4' k4
  have b4 := F4.binds (ps := ["_law_script", "_law_some"]) fun _ _ _ _ _ _ us hl => match us, hl with | [_, _], _ => rfl
  have F5 := fun_mk (st := s_by_size) l5 c5' k5
  have b5 := F5.binds (ps := ["one"]) fun _ _ _ _ _ _ us hl => match us, hl with | [_], _ => rfl
  have F6 := fun_mk (st := s_is_part) l6 c6' k6
  have b6 := F6.binds (ps := ["one", "other"]) fun _ _ _ _ _ _ us hl => match us, hl with | [_, _], _ => rfl
  have F7 := fun_mk (st := s_has_part) l7 c7' k7
  have b7 := F7.binds (ps := ["one", "sets"]) fun _ _ _ _ _ _ us hl => match us, hl with | [_, _], _ => rfl
  have F8 := fun_mk (st := s_least_of) l8 c8' k8
  have b8 := F8.binds (ps := ["sets"]) fun _ _ _ _ _ _ us hl => match us, hl with | [_], _ => rfl
  have F9 := fun_mk (st := s_set_of) l9 c9' k9
  have b9 := F9.binds (ps := ["nails"]) fun _ _ _ _ _ _ us hl => match us, hl with | [_], _ => rfl
  have F10 := fun_mk (st := s_check_few) l10 c10' k10
  have b10 := F10.binds (ps := ["nails"]) fun _ _ _ _ _ _ us hl => match us, hl with | [_], _ => rfl
  have F11 := fun_mk (st := s_meeting_sets) l11 c11' k11
  have b11 := F11.binds (ps := ["family"]) fun _ _ _ _ _ _ us hl => match us, hl with | [_], _ => rfl
  have F12 := fun_mk (st := s_law_meets) l12 c12' k12
  have b12 := F12.binds (ps := ["_law_one", "_law_other"]) fun _ _ _ _ _ _ us hl => match us, hl with | [_, _], _ => rfl
  have F13 := fun_mk (st := s_law_is_least) l13 c13' k13
  have b13 := F13.binds (ps := ["_law_one", "_law_family_here"]) fun _ _ _ _ _ _ us hl => match us, hl with | [_, _], _ => rfl
  have F14 := fun_mk (st := s_least_sets) l14 c14' k14
  have b14 := F14.binds (ps := ["family"]) fun _ _ _ _ _ _ us hl => match us, hl with | [_], _ => rfl
  have F15 := fun_mk (st := s_law) l15 c15' k15
  have b15 := F15.binds (ps := ["_law_script"]) fun _ _ _ _ _ _ us hl => match us, hl with | [_], _ => rfl
  let fa : Nat → Addr := fun i => [f0, f1, f2, f3, f4, f5, f6, f7, f8, f9, f10, f11, f12, f13, f14, fl].getD i 0
  let fd : Nat → FuncData := fun i => [PySem.W.fnOf "_law_at" "_law_at" (defArgs s_law_at) (defBody s_law_at) (defScope s_law_at) .none kV0 dc0 pm0 an0 cd0 ct0, PySem.W.fnOf "_law_nails" "_law_nails" (defArgs s_law_nails) (defBody s_law_nails) (defScope s_law_nails) .none kV1 dc1 pm1 an1 cd1 ct1, PySem.W.fnOf "_law_set" "_law_set" (defArgs s_law_set) (defBody s_law_set) (defScope s_law_set) .none kV2 dc2 pm2 an2 cd2 ct2, PySem.W.fnOf "_law_stir" "_law_stir" (defArgs s_law_stir) (defBody s_law_stir) (defScope s_law_stir) .none kV3 dc3 pm3 an3 cd3 ct3, PySem.W.fnOf "_law_family" "_law_family" (defArgs s_law_family) (defBody s_law_family) (defScope s_law_family) .none kV4 dc4 pm4 an4 cd4 ct4, PySem.W.fnOf "by_size" "by_size" (defArgs s_by_size) (defBody s_by_size) (defScope s_by_size) .none kV5 dc5 pm5 an5 cd5 ct5, PySem.W.fnOf "is_part" "is_part" (defArgs s_is_part) (defBody s_is_part) (defScope s_is_part) .none kV6 dc6 pm6 an6 cd6 ct6, PySem.W.fnOf "has_part" "has_part" (defArgs s_has_part) (defBody s_has_part) (defScope s_has_part) .none kV7 dc7 pm7 an7 cd7 ct7, PySem.W.fnOf "least_of" "least_of" (defArgs s_least_of) (defBody s_least_of) (defScope s_least_of) .none kV8 dc8 pm8 an8 cd8 ct8, PySem.W.fnOf "set_of" "set_of" (defArgs s_set_of) (defBody s_set_of) (defScope s_set_of) .none kV9 dc9 pm9 an9 cd9 ct9, PySem.W.fnOf "check_few" "check_few" (defArgs s_check_few) (defBody s_check_few) (defScope s_check_few) .none kV10 dc10 pm10 an10 cd10 ct10, PySem.W.fnOf "meeting_sets" "meeting_sets" (defArgs s_meeting_sets) (defBody s_meeting_sets) (defScope s_meeting_sets) .none kV11 dc11 pm11 an11 cd11 ct11, PySem.W.fnOf "_law_meets" "_law_meets" (defArgs s_law_meets) (defBody s_law_meets) (defScope s_law_meets) .none kV12 dc12 pm12 an12 cd12 ct12, PySem.W.fnOf "_law_is_least" "_law_is_least" (defArgs s_law_is_least) (defBody s_law_is_least) (defScope s_law_is_least) .none kV13 dc13 pm13 an13 cd13 ct13, PySem.W.fnOf "least_sets" "least_sets" (defArgs s_least_sets) (defBody s_least_sets) (defScope s_least_sets) .none kV14 dc14 pm14 an14 cd14 ct14, PySem.W.fnOf "law" "law" (defArgs s_law) (defBody s_law) (defScope s_law) .none kV15 dc15 pm15 an15 cd15 ct15].getD i (PySem.W.fnOf "law" "law" (defArgs s_law) (defBody s_law) (defScope s_law) .none kV15 dc15 pm15 an15 cd15 ct15)
  let ca : Nat → Addr := fun i => [c0, c1].getD i 0
  have T : Txt K mg fa fd ca := ⟨PySem.W.mg_none_of X G z_all, PySem.W.mg_none_of X G z_any, PySem.W.mg_none_of X G z_isinstance, PySem.W.mg_none_of X G z_len, PySem.W.mg_none_of X G z_list, PySem.W.mg_none_of X G z_min, PySem.W.mg_none_of X G z_range, PySem.W.mg_none_of X G z_set, PySem.W.mg_none_of X G z_sorted, PySem.W.mg_none_of X G z_str, ⟨_, PySem.W.mg_of X G y_MOST⟩, ⟨_, PySem.W.mg_of X G y_NAILS⟩, ⟨PySem.W.mg_of X G xa0, xb0, xc0, xd0, xe0⟩, ⟨PySem.W.mg_of X G xa1, xb1, xc1, xd1, xe1⟩, PySem.W.mg_of X G a0, F0, b0, PySem.W.mg_of X G a1, F1, b1, PySem.W.mg_of X G a2, F2, b2, PySem.W.mg_of X G a3, F3, b3, PySem.W.mg_of X G a4, F4, b4, PySem.W.mg_of X G a5, F5, b5, PySem.W.mg_of X G a6, F6, b6, PySem.W.mg_of X G a7, F7, b7, PySem.W.mg_of X G a8, F8, b8, PySem.W.mg_of X G a9, F9, b9, PySem.W.mg_of X G a10, F10, b10, PySem.W.mg_of X G a11, F11, b11, PySem.W.mg_of X G a12, F12, b12, PySem.W.mg_of X G a13, F13, b13, PySem.W.mg_of X G a14, F14, b14, PySem.W.mg_of X G a15, F15, b15⟩
  exact ⟨PySem.W.fnOf "law" "law" (defArgs s_law) (defBody s_law) (defScope s_law) .none kV15 dc15 pm15 an15 cd15 ct15, fun s v => .of_eq rfl, fun base _ _ => ok_law T⟩
end NL
open PySem PySem.W PyProof.Rows
set_option maxHeartbeats 0 in
theorem PySem.Challenge.cw_nailhang_k34_meeting_twice_holds : PySem.Challenge.rw_nailhang_k34_meeting_twice.Holds := by
  w_on; o_law; k_head; (case hw => w_witness2)
  k_fill
  refine L2.walk_of (l := PySem.Challenge.rw_nailhang_k34_meeting_twice) (n := 63) (k := 7) (x := "_law_script") (CX := fun w => L2N.CX PySem.Challenge.rw_nailhang_k34_meeting_twice.prog w) (sp := fun w => NL.spLaw _) rfl (by decide) rfl ⟨rfl, by decide, by decide⟩ (fun w h Y => PySem.W.kIn_of Y) ?F (fun _ _ a ns hl hO hS => NL.law_in hl hS) (fun _ _ _ _ _ h => NL.law_cx h)
  case F =>
    intro w mg fa h KX G hmg
    refine' NL.law_F (NL.all_mk KX G hmg ?a0 ?l0 ?c0p ?k0 ?a1 ?l1 ?c1p ?k1 ?a2 ?l2 ?c2p ?k2 ?a3 ?l3 ?c3p ?k3 ?a4 ?l4 ?c4p ?k4 ?a5 ?l5 ?c5p ?k5 ?a6 ?l6 ?c6p ?k6 ?a7 ?l7 ?c7p ?k7 ?a8 ?l8 ?c8p ?k8 ?a9 ?l9 ?c9p ?k9 ?a10 ?l10 ?c10p ?k10 ?a11 ?l11 ?c11p ?k11 ?a12 ?l12 ?c12p ?k12 ?a13 ?l13 ?c13p ?k13 ?a14 ?l14 ?c14p ?k14 ?a15 ?l15 ?c15p ?k15 ?z_all ?z_any ?z_isinstance ?z_len ?z_list ?z_min ?z_range ?z_set ?z_sorted ?z_str ?y_MOST ?y_NAILS ?xa0 ?xb0 ?xc0 ?xd0 ?xe0 ?xa1 ?xb1 ?xc1 ?xd1 ?xe1)
    (case a0 => k_is)
    (case l0 => k_is)
    (case c0p => k_is)
    (case k0 => k_is)
    (case a1 => k_is)
    (case l1 => k_is)
    (case c1p => k_is)
    (case k1 => k_is)
    (case a2 => k_is)
    (case l2 => k_is)
    (case c2p => k_is)
    (case k2 => k_is)
    (case a3 => k_is)
    (case l3 => k_is)
    (case c3p => k_is)
    (case k3 => k_is)
    (case a4 => k_is)
    (case l4 => k_is)
    (case c4p => k_is)
    (case k4 => k_is)
    (case a5 => k_is)
    (case l5 => k_is)
    (case c5p => k_is)
    (case k5 => k_is)
    (case a6 => k_is)
    (case l6 => k_is)
    (case c6p => k_is)
    (case k6 => k_is)
    (case a7 => k_is)
    (case l7 => k_is)
    (case c7p => k_is)
    (case k7 => k_is)
    (case a8 => k_is)
    (case l8 => k_is)
    (case c8p => k_is)
    (case k8 => k_is)
    (case a9 => k_is)
    (case l9 => k_is)
    (case c9p => k_is)
    (case k9 => k_is)
    (case a10 => k_is)
    (case l10 => k_is)
    (case c10p => k_is)
    (case k10 => k_is)
    (case a11 => k_is)
    (case l11 => k_is)
    (case c11p => k_is)
    (case k11 => k_is)
    (case a12 => k_is)
    (case l12 => k_is)
    (case c12p => k_is)
    (case k12 => k_is)
    (case a13 => k_is)
    (case l13 => k_is)
    (case c13p => k_is)
    (case k13 => k_is)
    (case a14 => k_is)
    (case l14 => k_is)
    (case c14p => k_is)
    (case k14 => k_is)
    (case a15 => k_is)
    (case l15 => k_is)
    (case c15p => k_is)
    (case k15 => k_is)
    (case z_all => k_is)
    (case z_any => k_is)
    (case z_isinstance => k_is)
    (case z_len => k_is)
    (case z_list => k_is)
    (case z_min => k_is)
    (case z_range => k_is)
    (case z_set => k_is)
    (case z_sorted => k_is)
    (case z_str => k_is)
    (case y_MOST => k_is)
    (case y_NAILS => k_is)
    (case xa0 => k_is)
    (case xb0 => k_exc)
    (case xc0 => k_is)
    (case xd0 => k_is)
    (case xe0 => k_is)
    (case xa1 => k_is)
    (case xb1 => k_exc)
    (case xc1 => k_is)
    (case xd1 => k_is)
    (case xe1 => k_is)
#print axioms PySem.Challenge.cw_nailhang_k34_meeting_twice_holds
