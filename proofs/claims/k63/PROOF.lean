import PyProof.Rows.All
import HandS.ForMost
import HandS.ForExc
import HandS.Wide
import HandS.IsInst
import HandS.Flow
import HandS.Lambda
import HandS.Style
import HandS.ExcCtx
import KE.SortKeyHeap
import HandS.Set
import HandS.SetFor
import HandS.SortKw
import KE.DatumOrd
import HandS.ExcIs
import HandS.HotCalls
import HandS.Text
import KE.KIntText
import PySem.Challenge.RW_nailhang_k63_no_text
set_option Elab.async false
set_option linter.all false
set_option maxRecDepth 100000
set_option maxHeartbeats 2000000
/-! Data over the hand layer: what an expression tells as data, with no heap in sight. -/
namespace NL
open PySem PySem.Spec L2
open PyProof.Rows hiding St

/-- the written part; the tables of code objects; the own classes -/
class KC where
  K : PySem.W.Frag
  T : List (Addr × Str)
  ca : Str → Addr
variable [KC]
inductive D where
  | non | bl (b : Bool) | int (i : Int) | str (s : Str) | lst (xs : List D) | tup (xs : List D) | dct (ks : List Key) (xs : List D) | ref (a : Addr) | scr (ns : List Int) | dkz (ks : List Key) (xs : List D) | obj (c : Str) (fs : List Str) (xs : List D)

mutual
def Dat (S : Hp) : D → V → Prop
  | .non, v => v = .non
  | .bl b, v => v = .bl b
  | .int i, v => v = .int i
  | .str s, v => v = .str s
  | .lst xs, v => ∃ a vs, v = .ref a ∧ S a = some (.lst vs) ∧ Dats S xs vs
  | .tup xs, v => ∃ a vs, v = .ref a ∧ S a = some (.tup vs) ∧ Dats S xs vs
  | .dct ks xs, v => ∃ a kvs, v = .ref a ∧ S a = some (.dK kvs) ∧ kvs.map (·.1) = ks ∧ Dats S xs (kvs.map (·.2))
  | .dkz ks xs, v => ∃ a o kvs, v = .ref a ∧ S a = some (.frz o (.dK kvs)) ∧ kvs.map (·.1) = ks ∧ Dats S xs (kvs.map (·.2))
  | .obj c fs xs, v => ∃ a dx kvs, v = .ref a ∧ S a = some (.ins (KC.ca c) dx kvs) ∧ kvs.map (·.1) = fs ∧ Dats S xs (kvs.map (·.2))
  | .ref a, v => v = .ref a
  | .scr ns, v => ∃ a, v = .ref a ∧ SqL KC.K S a (ns.map V.int)
def Dats (S : Hp) : List D → List V → Prop
  | [], vs => vs = []
  | x :: xs, vs => ∃ v r, vs = v :: r ∧ Dat S x v ∧ Dats S xs r
end

theorem same_rd {S T : Hp} {a : Addr} {u : HO} (e : Same S T) (h : Rd S a u) : Rd T a u := by
  rcases h with h | ⟨o, h⟩
  · exact .inl (e _ _ h)
  · exact .inr ⟨o, e _ _ h⟩
mutual
theorem Dat.mono {S T : Hp} (e : Same S T) : ∀ (d : D) (v : V), Dat S d v → Dat T d v
  | .non, _, h => h
  | .bl _, _, h => h
  | .int _, _, h => h
  | .str _, _, h => h
  | .ref _, _, h => h
  | .scr ns, v, h => by
    unfold Dat at h ⊢
    obtain ⟨a, h1, h2⟩ := h
    exact ⟨a, h1, e.seq h2⟩
  | .lst xs, v, h => by
    unfold Dat at h ⊢
    obtain ⟨a, vs, h1, h2, h3⟩ := h
    exact ⟨a, vs, h1, e _ _ h2, Dats.mono e xs vs h3⟩
  | .tup xs, v, h => by
    unfold Dat at h ⊢
    obtain ⟨a, vs, h1, h2, h3⟩ := h
    exact ⟨a, vs, h1, e _ _ h2, Dats.mono e xs vs h3⟩
  | .dct ks xs, v, h => by
    unfold Dat at h ⊢
    obtain ⟨a, kvs, h1, h2, h3, h4⟩ := h
    exact ⟨a, kvs, h1, e _ _ h2, h3, Dats.mono e xs _ h4⟩
  | .dkz ks xs, v, h => by
    unfold Dat at h ⊢
    obtain ⟨a, o, kvs, h1, h2, h3, h4⟩ := h
    exact ⟨a, o, kvs, h1, e _ _ h2, h3, Dats.mono e xs _ h4⟩
  | .obj c fs xs, v, h => by
    unfold Dat at h ⊢
    obtain ⟨a, dx, kvs, h1, h2, h3, h4⟩ := h
    exact ⟨a, dx, kvs, h1, e _ _ h2, h3, Dats.mono e xs _ h4⟩
theorem Dats.mono {S T : Hp} (e : Same S T) : ∀ (xs : List D) (vs : List V), Dats S xs vs → Dats T xs vs
  | [], _, h => h
  | x :: xs, vs, h => by
    unfold Dats at h ⊢
    obtain ⟨v, r, h1, h2, h3⟩ := h
    exact ⟨v, r, h1, Dat.mono e x v h2, Dats.mono e xs r h3⟩
end
section
variable {S T : Hp}
theorem Dats.len : ∀ {xs : List D} {vs : List V}, Dats S xs vs → vs.length = xs.length
  | [], _, h => by unfold Dats at h; subst h; rfl
  | x :: xs, vs, h => by
    unfold Dats at h
    obtain ⟨v, r, rfl, _, h3⟩ := h
    simp only [List.length_cons, h3.len]
theorem Dats.cons {x : D} {xs : List D} {v : V} {vs : List V} (h : Dat S x v) (r : Dats S xs vs) : Dats S (x :: xs) (v :: vs) := by
  unfold Dats
  exact ⟨v, vs, rfl, h, r⟩
theorem Dats.nil : Dats S [] [] := by unfold Dats; rfl
theorem Dats.app : ∀ {xs ys : List D} {vs ws : List V}, Dats S xs vs → Dats S ys ws → Dats S (xs ++ ys) (vs ++ ws)
  | [], _, _, _, h, g => by unfold Dats at h; subst h; exact g
  | x :: xs, ys, vs, ws, h, g => by
    unfold Dats at h
    obtain ⟨v, r, rfl, h2, h3⟩ := h
    exact .cons h2 (h3.app g)
theorem Dats.one {x : D} {v : V} (h : Dat S x v) : Dats S [x] [v] := .cons h .nil
theorem Dats.take : ∀ (n : Nat) {xs : List D} {vs : List V}, Dats S xs vs → Dats S (xs.take n) (vs.take n)
  | 0, xs, vs, _ => by simp; exact .nil
  | n + 1, [], vs, h => by unfold Dats at h; subst h; simp; exact .nil
  | n + 1, x :: xs, vs, h => by
    unfold Dats at h
    obtain ⟨v, r, rfl, h2, h3⟩ := h
    simp only [List.take_succ_cons]
    exact .cons h2 (h3.take n)
theorem Dats.drop : ∀ (n : Nat) {xs : List D} {vs : List V}, Dats S xs vs → Dats S (xs.drop n) (vs.drop n)
  | 0, xs, vs, h => h
  | n + 1, [], vs, h => by unfold Dats at h; subst h; simp; exact .nil
  | n + 1, x :: xs, vs, h => by
    unfold Dats at h
    obtain ⟨v, r, rfl, h2, h3⟩ := h
    simp only [List.drop_succ_cons]
    exact h3.drop n
theorem Dats.get : ∀ {xs : List D} {vs : List V} {i : Nat} {x : D}, Dats S xs vs → xs[i]? = some x → ∃ v, vs[i]? = some v ∧ Dat S x v
  | [], _, i, x, _, e => by simp at e
  | x :: xs, vs, 0, y, h, e => by
    unfold Dats at h
    obtain ⟨v, r, rfl, h2, h3⟩ := h
    simp at e
    subst e
    exact ⟨v, rfl, h2⟩
  | x :: xs, vs, i + 1, y, h, e => by
    unfold Dats at h
    obtain ⟨v, r, rfl, h2, h3⟩ := h
    simp at e ⊢
    exact h3.get e
theorem Dats.getV : ∀ {xs : List D} {vs : List V} {i : Nat} {v : V}, Dats S xs vs → vs[i]? = some v → ∃ x, xs[i]? = some x ∧ Dat S x v
  | [], _, i, x, h, e => by unfold Dats at h; subst h; simp at e
  | x :: xs, vs, 0, y, h, e => by
    unfold Dats at h
    obtain ⟨v, r, rfl, h2, h3⟩ := h
    simp at e
    subst e
    exact ⟨x, rfl, h2⟩
  | x :: xs, vs, i + 1, y, h, e => by
    unfold Dats at h
    obtain ⟨v, r, rfl, h2, h3⟩ := h
    simp at e ⊢
    exact h3.getV e
theorem Dats.set : ∀ {xs : List D} {vs : List V} (i : Nat) {x : D} {v : V}, Dats S xs vs → Dat S x v → Dats S (xs.set i x) (vs.set i v)
  | [], _, i, x, v, h, g => by unfold Dats at h; subst h; simp; exact .nil
  | y :: xs, vs, 0, x, v, h, g => by
    unfold Dats at h
    obtain ⟨v', r, rfl, h2, h3⟩ := h
    exact .cons g h3
  | y :: xs, vs, i + 1, x, v, h, g => by
    unfold Dats at h
    obtain ⟨v', r, rfl, h2, h3⟩ := h
    exact .cons h2 (h3.set i g)
theorem Dats.dropLast {xs : List D} {vs : List V} (h : Dats S xs vs) : Dats S xs.dropLast vs.dropLast := by
  rw [List.dropLast_eq_take, List.dropLast_eq_take, h.len]
  exact h.take _
theorem Dats.rev : ∀ {xs : List D} {vs : List V}, Dats S xs vs → Dats S xs.reverse vs.reverse
  | [], _, h => by unfold Dats at h; subst h; exact .nil
  | x :: xs, vs, h => by
    unfold Dats at h
    obtain ⟨v, r, rfl, h2, h3⟩ := h
    simp only [List.reverse_cons]
    exact h3.rev.app (.one h2)
theorem Dats.rep {xs : List D} {vs : List V} (h : Dats S xs vs) : ∀ n, Dats S (List.replicate n xs).flatten (List.replicate n vs).flatten
  | 0 => .nil
  | n + 1 => by
    simp only [List.replicate_succ, List.flatten_cons]
    exact h.app (h.rep n)
theorem Dats.ins : ∀ {xs : List D} {vs : List V} (i : Nat) {x : D} {v : V}, Dats S xs vs → Dat S x v → Dats S (xs.insertIdx i x) (vs.insertIdx i v)
  | xs, vs, 0, x, v, h, g => by simp; exact .cons g h
  | [], vs, i + 1, x, v, h, g => by unfold Dats at h; subst h; simp; exact .nil
  | y :: xs, vs, i + 1, x, v, h, g => by
    unfold Dats at h
    obtain ⟨v', r, rfl, h2, h3⟩ := h
    simp only [List.insertIdx_succ_cons]
    exact .cons h2 (h3.ins i g)
theorem Dats.ints : ∀ (ns : List Int), Dats S (ns.map D.int) (ns.map V.int)
  | [] => .nil
  | n :: ns => .cons (by unfold Dat; rfl) (Dats.ints ns)
theorem Dats.ofInts : ∀ {ns : List Int} {vs : List V}, Dats S (ns.map D.int) vs → vs = ns.map V.int
  | [], vs, h => by unfold Dats at h; exact h
  | n :: ns, vs, h => by
    unfold Dats at h
    obtain ⟨v, r, rfl, h2, h3⟩ := h
    unfold Dat at h2
    subst h2
    simp only [List.map_cons, Dats.ofInts h3]
theorem Dats.ofStrs : ∀ {ns : List Str} {vs : List V}, Dats S (ns.map D.str) vs → vs = ns.map V.str
  | [], vs, h => by unfold Dats at h; exact h
  | n :: ns, vs, h => by
    unfold Dats at h
    obtain ⟨v, r, rfl, h2, h3⟩ := h
    unfold Dat at h2
    subst h2
    simp only [List.map_cons, Dats.ofStrs h3]
theorem Dats.strs : ∀ (ns : List Str), Dats S (ns.map D.str) (ns.map V.str)
  | [] => .nil
  | n :: ns => .cons (by unfold Dat; rfl) (Dats.strs ns)
theorem Dats.ofBls : ∀ {ns : List Bool} {vs : List V}, Dats S (ns.map D.bl) vs → vs = ns.map V.bl
  | [], vs, h => by unfold Dats at h; exact h
  | n :: ns, vs, h => by
    unfold Dats at h
    obtain ⟨v, r, rfl, h2, h3⟩ := h
    unfold Dat at h2
    subst h2
    simp only [List.map_cons, Dats.ofBls h3]
end

/-! ### what is owned by a slot -/
inductive Cn where
  | lst (xs : List D) | dct (ks : List Key) (xs : List D) | obj (c : Str) (fs : List Str) (xs : List D)
def Cn.d : Cn → D
  | .lst xs => .lst xs
  | .dct ks xs => .dct ks xs
  | .obj c fs xs => .obj c fs xs
def CnOk (S : Hp) : Cn → HO → Prop
  | .lst xs, o => ∃ vs, o = .lst vs ∧ Dats S xs vs
  | .dct ks xs, o => ∃ kvs, o = .dK kvs ∧ kvs.map (·.1) = ks ∧ Dats S xs (kvs.map (·.2))
  | .obj c fs xs, o => ∃ dx kvs, o = .ins (KC.ca c) dx kvs ∧ kvs.map (·.1) = fs ∧ Dats S xs (kvs.map (·.2))
theorem CnOk.mono {S T : Hp} (e : Same S T) : ∀ {c : Cn} {o : HO}, CnOk S c o → CnOk T c o
  | .lst xs, o, ⟨vs, h1, h2⟩ => ⟨vs, h1, Dats.mono e _ _ h2⟩
  | .dct ks xs, o, ⟨vs, h1, h2, h3⟩ => ⟨vs, h1, h2, Dats.mono e _ _ h3⟩
  | .obj c fs xs, o, ⟨dx, vs, h1, h2, h3⟩ => ⟨dx, vs, h1, h2, Dats.mono e _ _ h3⟩
theorem CnOk.dat {S : Hp} {a : Addr} {o : HO} (h : S a = some o) : ∀ {c : Cn}, CnOk S c o → Dat S c.d (.ref a)
  | .lst xs, ⟨vs, h1, h2⟩ => by
    subst h1
    show Dat S (.lst xs) _
    unfold Dat
    exact ⟨a, vs, rfl, h, h2⟩
  | .dct ks xs, ⟨vs, h1, h2, h3⟩ => by
    subst h1
    show Dat S (.dct ks xs) _
    unfold Dat
    exact ⟨a, vs, rfl, h, h2, h3⟩
  | .obj c fs xs, ⟨dx, vs, h1, h2, h3⟩ => by
    subst h1
    show Dat S (.obj c fs xs) _
    unfold Dat
    exact ⟨a, dx, vs, rfl, h, h2, h3⟩
theorem CnOk.ntb {S : Hp} {o : HO} : ∀ {c : Cn}, CnOk S c o → (∀ ps, o ≠ .tbl ps) ∧ ∀ φ, o ≠ .ext φ
  | .lst xs, ⟨vs, h1, _⟩ => by subst h1; exact ⟨(fun _ z => by cases z), (fun _ z => by cases z)⟩
  | .dct ks xs, ⟨vs, h1, _⟩ => by subst h1; exact ⟨(fun _ z => by cases z), (fun _ z => by cases z)⟩
  | .obj c fs xs, ⟨dx, vs, h1, _⟩ => by subst h1; exact ⟨(fun _ z => by cases z), (fun _ z => by cases z)⟩

inductive Sl where
  | un | fz (d : D) | own (m : Bool) (c : Cn)
abbrev Ev := List Sl
abbrev XS := Str → Prop

/-- a def's frame: the heap and the shared data at its entry; what it may change -/
structure Fr where
  H0 : Hp
  S0 : Hp
  M : Addr → Prop

/-- all stays but the tables of code objects, which grow -/
structure ExtT (H H' : Hp) : Prop where
  keep : ∀ b o, H b = some o → (∀ ps, o ≠ .tbl ps) → H' b = some o
  ne : ∀ b, H b ≠ none → H' b ≠ none
  tab : ∀ P q, (P, q) ∈ KC.T → LamX.TabS H P q → LamX.TabS H' P q
theorem same_ne {H H' : Hp} (e : Same H H') {a : Addr} (h : H a ≠ none) : H' a ≠ none := by
  cases q : H a with
  | none => exact absurd q h
  | some o => rw [e a o q]; intro z; cases z
theorem ExtT.of {H H' : Hp} (e : Same H H') : ExtT H H' := ⟨fun b o h _ => e b o h, fun b h => same_ne e h, fun _ _ _ h => h.ext e⟩
theorem ExtT.refl {H : Hp} : ExtT H H := .of (.refl _)
theorem ExtT.trans {H H1 H2 : Hp} (a : ExtT H H1) (b : ExtT H1 H2) : ExtT H H2 := ⟨fun c o h n => b.keep c o (a.keep c o h n) n, fun c h => b.ne c (a.ne c h), fun P q m h => b.tab P q m (a.tab P q m h)⟩
theorem ExtT.free {H H' : Hp} (e : ExtT H H') {a : Addr} (h : H' a = none) : H a = none := by
  cases q : H a with
  | none => rfl
  | some o => exact absurd h (e.ne a (by rw [q]; intro z; cases z))
theorem ExtT.lst {H H' : Hp} (e : ExtT H H') {a : Addr} {xs : List V} (h : H a = some (.lst xs)) : H' a = some (.lst xs) := e.keep a _ h (fun _ z => by cases z)
theorem ExtT.dK {H H' : Hp} (e : ExtT H H') {a : Addr} {xs : List (Key × V)} (h : H a = some (.dK xs)) : H' a = some (.dK xs) := e.keep a _ h (fun _ z => by cases z)
theorem ExtT.ins {H H' : Hp} (e : ExtT H H') {a C dx : Addr} {xs : List (Str × V)} (h : H a = some (.ins C dx xs)) : H' a = some (.ins C dx xs) := e.keep a _ h (fun _ z => by cases z)
theorem ExtT.cn {H H' S : Hp} (e : ExtT H H') {a : Addr} {o : HO} {c : Cn} (h : H a = some o) (k : CnOk S c o) : H' a = some o := e.keep a _ h k.ntb.1
/-- a thing that is neither a table nor a code object is written -/
theorem ExtT.put {H : Hp} {p : Addr} {o o' : HO} (h : H p = some o) (n1 : ∀ ps, o ≠ .tbl ps) (n2 : ∀ φ, o ≠ .ext φ) : (∀ b, H b ≠ none → upd H p o' b ≠ none) ∧ ∀ P q, LamX.TabS H P q → LamX.TabS (upd H p o') P q := by
  refine ⟨fun b hb => ?_, fun P q ⟨ps, h1, h2, h3⟩ => ⟨ps, ?_, h2, fun pos cv hc => ?_⟩⟩
  · by_cases z : b = p
    · subst z; rw [upd_same]; intro z; cases z
    · rw [upd_ne z]; exact hb
  · rw [upd_ne (fun z => n1 ps (by rw [z, h] at h1; exact Option.some.inj h1))]
    exact h1
  · obtain ⟨c, e1, e2⟩ := h3 pos cv hc
    refine ⟨c, e1, ?_⟩
    rw [upd_ne (fun z => n2 _ (by rw [z, h] at e2; exact Option.some.inj e2))]
    exact e2
theorem ExtT.lay {H H' : Hp} (e : ExtT H H') {p : Addr} {o : HO} (h : H' p = none) : ExtT H (upd H' p o) := e.trans (.of fun b x z => by
  rw [upd_ne (ne_of_none z h)]
  exact z)
theorem ExtT.over {H H' : Hp} (e : ExtT H H') {p : Addr} {o o' : HO} (h0 : H p = none) (h : H' p = some o) (n1 : ∀ ps, o ≠ .tbl ps) (n2 : ∀ φ, o ≠ .ext φ) : ExtT H (upd H' p o') := by
  have et := ExtT.put (o' := o') h n1 n2
  refine ⟨fun b x hb n => ?_, fun b hb => et.1 b (e.ne b hb), fun P q m hq => et.2 P q (e.tab P q m hq)⟩
  rw [upd_ne (ne_of_none hb h0)]
  exact e.keep b x hb n
/-- the heap grows, the shared data with it -/
structure Grow (H S H' S' : Hp) : Prop where
  hh : ExtT H H'
  ss : Same S S'
  sh : Same S' H'
  nw : ∀ a, H a ≠ none → S' a = S a
/-- the tables of code objects, none of them shared data -/
def Tbq (S H : Hp) : Prop := LamX.Tabs KC.T H ∧ ∀ p ∈ KC.T, S p.1 = none
theorem tab_ne {H : Hp} {P : Addr} {q : Str} (h : LamX.TabS H P q) : H P ≠ none := by
  obtain ⟨ps, h, _⟩ := h
  rw [h]
  intro z
  cases z
theorem Tbq.grow {H S H1 S1 : Hp} (t : Tbq S H) (g : Grow H S H1 S1) : Tbq S1 H1 := ⟨fun p hp => g.hh.tab _ _ hp (t.1 p hp), fun p hp => (g.nw p.1 (tab_ne (t.1 p hp))).trans (t.2 p hp)⟩
theorem Tbq.frz {H S : Hp} {p : Addr} {o o' : HO} (t : Tbq S H) (h : H p = some o) (n : ∀ ps, o ≠ .tbl ps) : Tbq (upd S p o') H := ⟨t.1, fun x hx => by
  rw [upd_ne (fun z => ?_)]
  · exact t.2 x hx
  · obtain ⟨ps, h2, _⟩ := t.1 x hx
    rw [z, h] at h2
    exact n ps (Option.some.inj h2)⟩
structure FGrow (F : Fr) (H S : Hp) : Prop where
  hh : ∀ a o, ¬ F.M a → F.H0 a = some o → (∀ ps, o ≠ .tbl ps) → H a = some o
  al : ∀ a, F.H0 a ≠ none → H a ≠ none
  ss : Same F.S0 S
  sh : Same S H
  nw : ∀ a, F.H0 a ≠ none → S a = F.S0 a
  ft : ∀ P q, (P, q) ∈ KC.T → LamX.TabS F.H0 P q → LamX.TabS H P q
  tb : Tbq S H
section
variable {F : Fr} {H S H1 S1 H2 S2 : Hp}
theorem Grow.refl (e : Same S H) : Grow H S H S := ⟨.refl, .refl _, e, fun _ _ => rfl⟩
theorem Grow.trans (a : Grow H S H1 S1) (b : Grow H1 S1 H2 S2) : Grow H S H2 S2 :=
  ⟨a.hh.trans b.hh, a.ss.trans b.ss, b.sh, fun x h => (b.nw x (a.hh.ne _ h)).trans (a.nw x h)⟩
theorem FGrow.grow (f : FGrow F H S) (g : Grow H S H1 S1) : FGrow F H1 S1 :=
  ⟨fun a o m h n => g.hh.keep a o (f.hh a o m h n) n, fun a h => g.hh.ne _ (f.al a h), f.ss.trans g.ss, g.sh, fun a h => (g.nw a (f.al a h)).trans (f.nw a h), fun P q m h => g.hh.tab P q m (f.ft P q m h), f.tb.grow g⟩
theorem same_upd {p : Addr} {o : HO} (h : H p = none) : Same H (upd H p o) := fun b x e => by
  rw [upd_ne (ne_of_none e h)]
  exact e
theorem same_upd2 {p : Addr} {o : HO} (e : Same S H) (h : H p = some o) : Same (upd S p o) H := fun b x q => by
  by_cases z : b = p
  · subst z
    rw [upd_same] at q
    rw [h]
    exact q
  · rw [upd_ne z] at q
    exact e b x q
/-- a new thing is laid, not shared -/
theorem Grow.lay {p : Addr} {o : HO} (g : Grow H S H1 S1) (h : H1 p = none) : Grow H S (upd H1 p o) S1 :=
  ⟨g.hh.lay h, g.ss, g.sh.trans (same_upd h), g.nw⟩
/-- a new thing is shared -/
theorem Grow.share {p : Addr} {o : HO} (g : Grow H S H1 S1) (h : H p = none) (h1 : S1 p = none) (h2 : H1 p = some o) : Grow H S H1 (upd S1 p o) :=
  ⟨g.hh, g.ss.trans (same_upd h1), same_upd2 g.sh h2, fun a ha => by
    rw [upd_ne (fun z => ha (by rw [z]; exact h))]
    exact g.nw a ha⟩
theorem Grow.freeS (g : Grow H S H1 S1) {p : Addr} (h : H1 p = none) : S1 p = none := g.sh.free h
theorem Grow.freeH (g : Grow H S H1 S1) {p : Addr} (h : H1 p = none) : H p = none := g.hh.free h
end

/-- what stands at a slot -/
def SlOk (F : Fr) (H S : Hp) : Sl → Option (Option V) → Prop
  | .un, _ => True
  | .fz d, x => ∃ v, x = some (some v) ∧ Dat S d v
  | .own m c, x => ∃ p o, x = some (some (.ref p)) ∧ S p = none ∧ H p = some o ∧ CnOk S c o ∧ (m = true → F.M p) ∧ (m = false → F.H0 p = none)
structure Rep (F : Fr) (ρ : Ev) (σ : St) (H S : Hp) : Prop where
  fg : FGrow F H S
  len : σ.length = ρ.length
  at' : ∀ (i : Nat) (sl : Sl), ρ[i]? = some sl → SlOk F H S sl σ[i]?
  dist : ∀ (i j : Nat) (m m' : Bool) (c c' : Cn), i ≠ j → ρ[i]? = some (.own m c) → ρ[j]? = some (.own m' c') → σ[i]? ≠ σ[j]?
section
variable {F : Fr} {ρ : Ev} {σ : St} {H S H1 S1 : Hp}
theorem Rep.sh (r : Rep F ρ σ H S) : Same S H := r.fg.sh
theorem SlOk.grow (g : Grow H S H1 S1) : ∀ {sl : Sl} {x : Option (Option V)}, SlOk F H S sl x → SlOk F H1 S1 sl x
  | .un, _, _ => trivial
  | .fz d, _, ⟨v, e, h⟩ => ⟨v, e, Dat.mono g.ss d v h⟩
  | .own m c, _, ⟨p, o, e, h1, h2, h3, h4⟩ => ⟨p, o, e, by rw [g.nw p (by rw [h2]; intro z; cases z)]; exact h1, g.hh.cn h2 h3, h3.mono g.ss, h4⟩
theorem Rep.grow (r : Rep F ρ σ H S) (g : Grow H S H1 S1) : Rep F ρ σ H1 S1 :=
  ⟨r.fg.grow g, r.len, fun i sl h => (r.at' i sl h).grow g, r.dist⟩
theorem Rep.fz {i : Nat} {d : D} (r : Rep F ρ σ H S) (h : ρ[i]? = some (.fz d)) : ∃ v, σ[i]? = some (some v) ∧ Dat S d v := r.at' i _ h
theorem Rep.own {i : Nat} {m : Bool} {c : Cn} (r : Rep F ρ σ H S) (h : ρ[i]? = some (.own m c)) :
    ∃ p o, σ[i]? = some (some (.ref p)) ∧ S p = none ∧ H p = some o ∧ CnOk S c o ∧ (m = true → F.M p) ∧ (m = false → F.H0 p = none) := r.at' i _ h
/-- a slot is set to shared data -/
theorem Rep.set {i : Nat} {d : D} {v : V} (r : Rep F ρ σ H S) (h : Dat S d v) : Rep F (ρ.set i (.fz d)) (σ.set i (some v)) H S := by
  refine ⟨r.fg, by simp [r.len], fun j sl e => ?_, fun j k m m' c c' n e1 e2 => ?_⟩
  · by_cases z : i = j
    · subst z
      by_cases hl : i < ρ.length
      · rw [List.getElem?_set_self hl] at e
        cases e
        exact ⟨v, by rw [List.getElem?_set_self (by rw [r.len]; exact hl)], h⟩
      · rw [List.getElem?_eq_none (by simpa using hl)] at e
        cases e
    · rw [List.getElem?_set_ne z] at e ⊢
      exact r.at' j sl e
  · have z1 : i ≠ j := fun z => by
      subst z
      rw [List.getElem?_set] at e1
      simp at e1
    have z2 : i ≠ k := fun z => by
      subst z
      rw [List.getElem?_set] at e2
      simp at e2
    rw [List.getElem?_set_ne z1] at e1 ⊢
    rw [List.getElem?_set_ne z2] at e2 ⊢
    exact r.dist j k m m' c c' n e1 e2
/-- a slot is set to a new thing of its own -/
theorem Rep.setOwn {i : Nat} {c : Cn} {p : Addr} {o : HO} (r : Rep F ρ σ H S) (hS : S p = none) (hH : H p = some o) (hc : CnOk S c o) (h0 : F.H0 p = none)
    (hd : ∀ (j : Nat) (m : Bool) (c' : Cn), ρ[j]? = some (.own m c') → σ[j]? ≠ some (some (.ref p))) : Rep F (ρ.set i (.own false c)) (σ.set i (some (.ref p))) H S := by
  refine ⟨r.fg, by simp [r.len], fun j sl e => ?_, fun j k m m' c1 c2 n e1 e2 => ?_⟩
  · by_cases z : i = j
    · subst z
      by_cases hl : i < ρ.length
      · rw [List.getElem?_set_self hl] at e
        cases e
        exact ⟨p, o, by rw [List.getElem?_set_self (by rw [r.len]; exact hl)], hS, hH, hc, fun z => (by cases z), fun _ => h0⟩
      · rw [List.getElem?_eq_none (by simpa using hl)] at e
        cases e
    · rw [List.getElem?_set_ne z] at e ⊢
      exact r.at' j sl e
  · by_cases z1 : i = j
    · have z2 : i ≠ k := fun z => n (z1.symm.trans z)
      subst z1
      rw [List.getElem?_set_ne z2] at e2 ⊢
      by_cases hl : i < ρ.length
      · rw [List.getElem?_set_self (by rw [r.len]; exact hl)]
        exact fun z => hd k m' c2 e2 z.symm
      · rw [List.getElem?_eq_none (by simpa using hl)] at e1
        cases e1
    · rw [List.getElem?_set_ne z1] at e1 ⊢
      by_cases z2 : i = k
      · subst z2
        by_cases hl : i < ρ.length
        · rw [List.getElem?_set_self (by rw [r.len]; exact hl)]
          exact hd j m c1 e1
        · rw [List.getElem?_eq_none (by simpa using hl)] at e2
          cases e2
      · rw [List.getElem?_set_ne z2] at e2 ⊢
        exact r.dist j k m m' c1 c2 n e1 e2
/-- an owned thing is changed -/
theorem Rep.put {i : Nat} {m : Bool} {c c' : Cn} {p : Addr} {o' : HO} (r : Rep F ρ σ H S) (h : ρ[i]? = some (.own m c)) (hp : σ[i]? = some (some (.ref p))) (hc : CnOk S c' o') :
    Rep F (ρ.set i (.own m c')) σ (upd H p o') S := by
  obtain ⟨p', o1, e1, e2, e3, e4, e5, e6⟩ := r.own h
  have : p' = p := by
    rw [e1] at hp
    cases hp
    rfl
  subst this
  have hl : i < ρ.length := by
    rcases Nat.lt_or_ge i ρ.length with q | q
    · exact q
    · rw [List.getElem?_eq_none q] at h
      cases h
  have et := ExtT.put (o' := o') e3 e4.ntb.1 e4.ntb.2
  refine ⟨⟨fun a u hm ha nt => ?_, fun a ha => ?_, r.fg.ss, fun a u ha => ?_, r.fg.nw, fun P q m h => et.2 P q (r.fg.ft P q m h), ⟨fun P h => et.2 _ _ (r.fg.tb.1 P h), r.fg.tb.2⟩⟩, by simp [r.len], fun j sl e => ?_, fun j k m1 m2 c1 c2 n q1 q2 => ?_⟩
  · have ne : a ≠ p' := fun z => by
      subst z
      cases m with
      | true => exact hm (e5 rfl)
      | false => rw [e6 rfl] at ha; cases ha
    rw [upd_ne ne]
    exact r.fg.hh a u hm ha nt
  · by_cases z : a = p'
    · subst z
      rw [upd_same]
      intro z
      cases z
    · rw [upd_ne z]
      exact r.fg.al a ha
  · rw [upd_ne (fun z => by rw [z, e2] at ha; cases ha)]
    exact r.fg.sh a u ha
  · by_cases z : i = j
    · subst z
      rw [List.getElem?_set_self hl] at e
      cases e
      exact ⟨p', o', hp, e2, upd_same, hc, e5, e6⟩
    · rw [List.getElem?_set_ne z] at e
      have q := r.at' j sl e
      cases sl with
      | un => trivial
      | fz d => exact q
      | own m3 c3 =>
        obtain ⟨p3, o3, f1, f2, f3, f4, f5⟩ := q
        refine ⟨p3, o3, f1, f2, ?_, f4, f5⟩
        rw [upd_ne (fun z3 => r.dist i j m m3 c c3 z h e (by rw [hp, f1, z3]))]
        exact f3
  · have conv : ∀ (l : Nat) (m4 : Bool) (c4 : Cn), (ρ.set i (.own m c'))[l]? = some (.own m4 c4) → ∃ m5 c5, ρ[l]? = some (.own m5 c5) := fun l m4 c4 q => by
      by_cases z : i = l
      · subst z
        exact ⟨m, c, h⟩
      · rw [List.getElem?_set_ne z] at q
        exact ⟨_, _, q⟩
    obtain ⟨_, _, w1⟩ := conv _ _ _ q1
    obtain ⟨_, _, w2⟩ := conv _ _ _ q2
    exact r.dist j k _ _ _ _ n w1 w2
/-- an owned thing is shared from here on -/
theorem Rep.frz {i : Nat} {c : Cn} (r : Rep F ρ σ H S) (h : ρ[i]? = some (.own false c)) : ∃ S', Rep F (ρ.set i (.fz c.d)) σ H S' := by
  obtain ⟨p, o, e1, e2, e3, e4, _, e6⟩ := r.own h
  have h0 := e6 rfl
  have hl : i < ρ.length := by
    rcases Nat.lt_or_ge i ρ.length with q | q
    · exact q
    · rw [List.getElem?_eq_none q] at h
      cases h
  have ss : Same S (upd S p o) := same_upd e2
  refine ⟨upd S p o, ⟨r.fg.hh, r.fg.al, r.fg.ss.trans ss, same_upd2 r.fg.sh e3, fun a ha => ?_, r.fg.ft, r.fg.tb.frz e3 e4.ntb.1⟩, by simp [r.len], fun j sl e => ?_, fun j k m1 m2 c1 c2 n q1 q2 => ?_⟩
  · rw [upd_ne (fun z => ha (by rw [z]; exact h0))]
    exact r.fg.nw a ha
  · by_cases z : i = j
    · subst z
      rw [List.getElem?_set_self hl] at e
      cases e
      exact ⟨.ref p, e1, CnOk.dat upd_same (e4.mono ss)⟩
    · rw [List.getElem?_set_ne z] at e
      have q := r.at' j sl e
      cases sl with
      | un => trivial
      | fz d =>
        obtain ⟨v, f1, f2⟩ := q
        exact ⟨v, f1, Dat.mono ss d v f2⟩
      | own m3 c3 =>
        obtain ⟨p3, o3, f1, f2, f3, f4, f5⟩ := q
        refine ⟨p3, o3, f1, ?_, f3, f4.mono ss, f5⟩
        rw [upd_ne (fun z3 => r.dist i j false m3 c c3 z h e (by rw [e1, f1, z3]))]
        exact f2
  · have conv : ∀ (l : Nat) (m4 : Bool) (c4 : Cn), (ρ.set i (.fz c.d))[l]? = some (.own m4 c4) → ρ[l]? = some (.own m4 c4) := fun l m4 c4 q => by
      by_cases z : i = l
      · subst z
        rw [List.getElem?_set_self hl] at q
        cases q
      · rw [List.getElem?_set_ne z] at q
        exact q
    exact r.dist j k _ _ _ _ n (conv _ _ _ q1) (conv _ _ _ q2)
theorem Rep.unset {i : Nat} {x : Option V} (r : Rep F ρ σ H S) : Rep F (ρ.set i .un) (σ.set i x) H S := by
  refine ⟨r.fg, by simp [r.len], fun j sl e => ?_, fun j k m m' c c' n e1 e2 => ?_⟩
  · by_cases z : i = j
    · subst z
      by_cases hl : i < ρ.length
      · rw [List.getElem?_set_self hl] at e
        cases e
        trivial
      · rw [List.getElem?_eq_none (by simpa using hl)] at e
        cases e
    · rw [List.getElem?_set_ne z] at e ⊢
      exact r.at' j sl e
  · have z1 : i ≠ j := fun z => by
      subst z
      rw [List.getElem?_set] at e1
      simp at e1
    have z2 : i ≠ k := fun z => by
      subst z
      rw [List.getElem?_set] at e2
      simp at e2
    rw [List.getElem?_set_ne z1] at e1 ⊢
    rw [List.getElem?_set_ne z2] at e2 ⊢
    exact r.dist j k m m' c c' n e1 e2
end
end NL

namespace NL
open PySem PySem.Spec L2
open PyProof.Rows hiding St

/-- simp leaves alone what a mark speaks of -/
structure Tg {α : Sort u} (a : α) : Type where
/-- one of two ways -/
def Br (b : Bool) (A B : Prop) (_ : Tg A) (_ : Tg B) : Prop := match b with
  | true => A
  | false => B
theorem Br_true {A B : Prop} {s : Tg A} {t : Tg B} : Br true A B s t = A := rfl
theorem Br_false {A B : Prop} {s : Tg A} {t : Tg B} : Br false A B s t = B := rfl
theorem Br_not {b : Bool} {A B : Prop} {s : Tg A} {t : Tg B} : Br (!b) A B s t = Br b B A t s := by cases b <;> rfl
theorem Br.i {b : Bool} {A B : Prop} {s : Tg A} {t : Tg B} (h1 : b = true → A) (h2 : b = false → B) : Br b A B s t := by
  cases b with
  | true => exact h1 rfl
  | false => exact h2 rfl
theorem Br.d {p : Prop} [Decidable p] {A B : Prop} {s : Tg A} {t : Tg B} (h1 : p → A) (h2 : ¬ p → B) : Br (decide p) A B s t :=
  .i (fun h => h1 (of_decide_eq_true h)) fun h => h2 (of_decide_eq_false h)
theorem Br.t {p : Prop} [Decidable p] {A B : Prop} {s : Tg A} {t : Tg B} (h : p) (h1 : A) : Br (decide p) A B s t := .d (fun _ => h1) fun z => absurd h z
theorem Br.f {p : Prop} [Decidable p] {A B : Prop} {s : Tg A} {t : Tg B} (h : ¬ p) (h1 : B) : Br (decide p) A B s t := .d (fun z => absurd z h) fun _ => h1
variable [KC]
/-! ### what an exception is wished for -/
theorem passN {X : Cx} : Passes (L2N.CX X.prog X.w) X E0 := fun _ _ _ _ _ _ _ h => by
  obtain ⟨_, _, _, _, _, _, _, _, _, _, _, _, z⟩ := h
  exact z.elim
theorem takesN {X : Cx} : L2N.Takes X (fun _ _ _ _ => False) := fun _ _ h => by
  obtain ⟨_, _, _, _, _, _, _, _, _, _, _, _, _, _, _, _, z⟩ := h
  exact z.elim
structure XOk (X : Cx) (E : XK) : Prop where
  pass : Passes (L2N.CX X.prog X.w) X E
  take : L2N.Takes X (fun cls d _ H => E cls d H)
  own : PassesOwn (model X.prog X.w) X.A X.env X.xe
theorem xkb {X : Cx} {s : Shared} {H : Hp} {sc : Scope} {cenv : Env} {fp : List Addr} : XOk (X.blk s H sc cenv fp) E0 := ⟨passN, takesN, PassesOwn.never⟩
def ExOk (mg : Str → Option Value) (E : XK) (x : XS) (H S : Hp) : Prop := ∀ n C H' S', x n → mg n = some (.ref C) → Grow H S H' S' → E (.ref C) none H'
theorem ExOk.grow {mg : Str → Option Value} {E : XK} {x : XS} {H S H1 S1 : Hp} (h : ExOk mg E x H S) (g : Grow H S H1 S1) : ExOk mg E x H1 S1 :=
  fun n C H' S' a b c => h n C H' S' a b (g.trans c)

/-! ### data that is read: the thing itself may be owned by a slot -/
def BDat (H S : Hp) : D → V → Prop
  | .lst xs, v => ∃ a vs, v = .ref a ∧ H a = some (.lst vs) ∧ Dats S xs vs
  | .dct ks xs, v => ∃ a kvs, v = .ref a ∧ H a = some (.dK kvs) ∧ kvs.map (·.1) = ks ∧ Dats S xs (kvs.map (·.2))
  | .obj c fs xs, v => ∃ a dx kvs, v = .ref a ∧ H a = some (.ins (KC.ca c) dx kvs) ∧ kvs.map (·.1) = fs ∧ Dats S xs (kvs.map (·.2))
  | d, v => Dat S d v
section
variable {H S H1 S1 : Hp}
theorem BDat.of (sh : Same S H) : ∀ {d : D} {v : V}, Dat S d v → BDat H S d v
  | .lst xs, v, h => by
    unfold Dat at h
    obtain ⟨a, vs, e, r, q⟩ := h
    exact ⟨a, vs, e, sh _ _ r, q⟩
  | .dct ks xs, v, h => by
    unfold Dat at h
    obtain ⟨a, vs, e, r, q, z⟩ := h
    exact ⟨a, vs, e, sh _ _ r, q, z⟩
  | .dkz _ _, _, h => h
  | .obj c fs xs, v, h => by
    unfold Dat at h
    obtain ⟨a, o, vs, e, r, q, z⟩ := h
    exact ⟨a, o, vs, e, sh _ _ r, q, z⟩
  | .non, _, h => h
  | .bl _, _, h => h
  | .int _, _, h => h
  | .str _, _, h => h
  | .ref _, _, h => h
  | .scr _, _, h => h
  | .tup _, _, h => h
theorem BDat.full (sh : Same S H) : ∀ {d : D} {v : V}, BDat H S d v → Dat H d v
  | .lst xs, v, ⟨a, vs, e, r, q⟩ => by
    unfold Dat
    exact ⟨a, vs, e, r, Dats.mono sh _ _ q⟩
  | .dct ks xs, v, ⟨a, vs, e, r, q, z⟩ => by
    unfold Dat
    exact ⟨a, vs, e, r, q, Dats.mono sh _ _ z⟩
  | .dkz ks xs, v, h => Dat.mono sh (.dkz ks xs) v h
  | .obj c fs xs, v, ⟨a, dx, vs, e, r, q, z⟩ => by
    unfold Dat
    exact ⟨a, dx, vs, e, r, q, Dats.mono sh _ _ z⟩
  | .non, _, h => h
  | .bl _, _, h => h
  | .int _, _, h => h
  | .str _, _, h => h
  | .ref _, _, h => h
  | .scr ns, v, h => Dat.mono sh (.scr ns) v h
  | .tup xs, v, h => Dat.mono sh (.tup xs) v h
theorem BDat.grow (g : Grow H S H1 S1) : ∀ {d : D} {v : V}, BDat H S d v → BDat H1 S1 d v
  | .lst xs, v, ⟨a, vs, e, r, q⟩ => ⟨a, vs, e, g.hh.lst r, Dats.mono g.ss _ _ q⟩
  | .dct ks xs, v, ⟨a, vs, e, r, q, z⟩ => ⟨a, vs, e, g.hh.dK r, q, Dats.mono g.ss _ _ z⟩
  | .dkz ks xs, v, h => Dat.mono g.ss (.dkz ks xs) v h
  | .obj c fs xs, v, ⟨a, dx, vs, e, r, q, z⟩ => ⟨a, dx, vs, e, g.hh.ins r, q, Dats.mono g.ss _ _ z⟩
  | .non, _, h => h
  | .bl _, _, h => h
  | .int _, _, h => h
  | .str _, _, h => h
  | .ref _, _, h => h
  | .scr ns, v, h => Dat.mono g.ss (.scr ns) v h
  | .tup xs, v, h => Dat.mono g.ss (.tup xs) v h
end

abbrev WE := XS → Ev → (D → Prop) → Prop
abbrev WL := XS → Ev → (List D → Prop) → Prop
abbrev WT := XS → Ev → (Bool → Prop) → Prop

/-- an expression that tells shared data -/
structure ED (X : Cx) (E : XK) (e : Expr) (w : WE) : Prop where
  ex : ∃ t, PE X e t ∧ ∀ (x : XS) (ρ : Ev) (Q : D → Prop), w x ρ Q → ∀ (F : Fr) (σ : L2.St) (H S : Hp) (Q' : VK), Rep F ρ σ H S → ExOk X.mg E x H S →
    (∀ d v H' S', Q d → Grow H S H' S' → Dat S' d v → Q' v H') → t σ H Q'
/-- .. data to be read -/
structure BD (X : Cx) (E : XK) (e : Expr) (w : WE) : Prop where
  ex : ∃ t, PE X e t ∧ ∀ (x : XS) (ρ : Ev) (Q : D → Prop), w x ρ Q → ∀ (F : Fr) (σ : L2.St) (H S : Hp) (Q' : VK), Rep F ρ σ H S → ExOk X.mg E x H S →
    (∀ d v H' S', Q d → Grow H S H' S' → BDat H' S' d v → Q' v H') → t σ H Q'
/-- .. a new list, nobody else's -/
structure DF (X : Cx) (E : XK) (e : Expr) (w : WL) : Prop where
  ex : ∃ t, PE X e t ∧ ∀ (x : XS) (ρ : Ev) (Q : List D → Prop), w x ρ Q → ∀ (F : Fr) (σ : L2.St) (H S : Hp) (Q' : VK), Rep F ρ σ H S → ExOk X.mg E x H S →
    (∀ xs p vs H' S', Q xs → Grow H S H' S' → H p = none → S' p = none → H' p = some (.lst vs) → Dats S' xs vs → Q' (.ref p) H') → t σ H Q'
/-- a test -/
structure TD (X : Cx) (E : XK) (e : Expr) (w : WT) : Prop where
  ex : ∃ t, PT X e t ∧ ∀ (x : XS) (ρ : Ev) (Q : Bool → Prop), w x ρ Q → ∀ (F : Fr) (σ : L2.St) (H S : Hp) (Q' : Bool → Hp → Prop), Rep F ρ σ H S → ExOk X.mg E x H S →
    (∀ b H' S', Q b → Grow H S H' S' → Q' b H') → t σ H Q'
structure WD (X : Cx) (E : XK) (e : Expr) (w : WT) : Prop where
  ex : ∃ t, PW X e t ∧ ∀ (x : XS) (ρ : Ev) (Q : Bool → Prop), w x ρ Q → ∀ (F : Fr) (σ : L2.St) (H S : Hp) (Q' : Bool → Hp → Prop), Rep F ρ σ H S → ExOk X.mg E x H S →
    (∀ b H' S', Q b → Grow H S H' S' → Q' b H') → t σ H Q'
/-- arguments, shared -/
structure AD (X : Cx) (E : XK) (es : List Expr) (w : WL) : Prop where
  ex : ∃ t, PA X es t ∧ ∀ (x : XS) (ρ : Ev) (Q : List D → Prop), w x ρ Q → ∀ (F : Fr) (σ : L2.St) (H S : Hp) (Q' : List V → Hp → Prop), Rep F ρ σ H S → ExOk X.mg E x H S →
    (∀ ds vs H' S', Q ds → Grow H S H' S' → Dats S' ds vs → Q' vs H') → t σ H Q'
/-- data read, side by side -/
def BDats (H S : Hp) : List D → List V → Prop
  | [], vs => vs = []
  | d :: ds, vs => ∃ v r, vs = v :: r ∧ BDat H S d v ∧ BDats H S ds r
theorem BDats.grow {H S H1 S1 : Hp} (g : Grow H S H1 S1) : ∀ {ds : List D} {vs : List V}, BDats H S ds vs → BDats H1 S1 ds vs
  | [], _, h => h
  | d :: ds, vs, ⟨v, r, e, h, q⟩ => ⟨v, r, e, h.grow g, BDats.grow g q⟩
theorem BDats.of {H S : Hp} (sh : Same S H) : ∀ {ds : List D} {vs : List V}, Dats S ds vs → BDats H S ds vs
  | [], _, h => by unfold Dats at h; exact h
  | d :: ds, vs, h => by
    unfold Dats at h
    obtain ⟨v, r, e, h, q⟩ := h
    exact ⟨v, r, e, BDat.of sh h, BDats.of sh q⟩
/-- arguments, read -/
structure AB (X : Cx) (E : XK) (es : List Expr) (w : WL) : Prop where
  ex : ∃ t, PA X es t ∧ ∀ (x : XS) (ρ : Ev) (Q : List D → Prop), w x ρ Q → ∀ (F : Fr) (σ : L2.St) (H S : Hp) (Q' : List V → Hp → Prop), Rep F ρ σ H S → ExOk X.mg E x H S →
    (∀ ds vs H' S', Q ds → Grow H S H' S' → BDats H' S' ds vs → Q' vs H') → t σ H Q'

section
variable {X : Cx} {E : XK} {e a b : Expr} {es : List Expr} {pos : Pos} {w wa wb : WE} {wl : WL}

/-! ### from one kind to another -/
theorem bd (h : ED X E e w) : BD X E e w := by
  obtain ⟨t, p, s⟩ := h.ex
  exact ⟨t, p, fun x ρ Q hw F σ H S Q' r ex k => s x ρ Q hw F σ H S Q' r ex fun d v H' S' q g hd => k d v H' S' q g (BDat.of g.sh hd)⟩
/-- a new list is shared at once -/
def wNew (wl : WL) : WE := fun x ρ Q => wl x ρ fun xs => Q (.lst xs)
theorem ed_new (h : DF X E e wl) : ED X E e (wNew wl) := by
  obtain ⟨t, p, s⟩ := h.ex
  refine ⟨t, p, fun x ρ Q hw F σ H S Q' r ex k => s x ρ _ hw F σ H S Q' r ex fun xs p vs H' S' q g h0 h1 h2 hd => ?_⟩
  refine k _ _ H' (upd S' p (.lst vs)) q (g.share h0 h1 h2) ?_
  unfold Dat
  exact ⟨p, vs, rfl, upd_same, Dats.mono (same_upd h1) _ _ hd⟩
theorem bd_new (h : DF X E e wl) : BD X E e (wNew wl) := bd (ed_new h)

/-! ### names and constants -/
def wVar (i : Nat) : WE := fun _ ρ Q => match ρ[i]? with
  | some (.fz d) => Q d
  | _ => False
theorem ed_var (i : Nat) {x : Str} (hN : X.N[i]? = some x := by rfl) (hv : Vis X.env.scope x := by first | exact Or.inl rfl | exact Or.inr (Or.inl rfl) | exact Or.inr (Or.inr rfl)) (hd : (x == ("__debug__" : Str)) = false := by decide)
    (hcd : (x == ("__classdict__" : Str)) = false := by decide) : ED X E (.Name x pos) (wVar i) := by
  refine ⟨_, pe_var hN hv hd hcd, fun x ρ Q hw F σ H S Q' r ex k => ?_⟩
  unfold wVar at hw
  split at hw
  · rename_i d hi
    obtain ⟨v, e, h⟩ := r.fz hi
    exact ⟨v, e, k d v H S hw (.refl r.sh) h⟩
  · exact hw.elim
/-- a slot's own thing, read -/
def wOwn (i : Nat) : WE := fun _ ρ Q => match ρ[i]? with
  | some (.own _ c) => Q c.d
  | some (.fz d) => Q d
  | _ => False
theorem bd_own (i : Nat) {x : Str} (hN : X.N[i]? = some x := by rfl) (hv : Vis X.env.scope x := by first | exact Or.inl rfl | exact Or.inr (Or.inl rfl) | exact Or.inr (Or.inr rfl)) (hd : (x == ("__debug__" : Str)) = false := by decide)
    (hcd : (x == ("__classdict__" : Str)) = false := by decide) : BD X E (.Name x pos) (wOwn i) := by
  refine ⟨_, pe_var hN hv hd hcd, fun x ρ Q hw F σ H S Q' r ex k => ?_⟩
  unfold wOwn at hw
  split at hw
  · rename_i m c hi
    obtain ⟨p, o, e, h1, h2, h3, _⟩ := r.own hi
    refine ⟨.ref p, e, k c.d _ H S hw (.refl r.sh) ?_⟩
    cases c with
    | lst xs =>
      obtain ⟨vs, rfl, q⟩ := h3
      exact ⟨p, vs, rfl, h2, q⟩
    | dct ks xs =>
      obtain ⟨vs, rfl, q, q2⟩ := h3
      exact ⟨p, vs, rfl, h2, q, q2⟩
    | obj c fs xs =>
      obtain ⟨dx, vs, rfl, q, q2⟩ := h3
      exact ⟨p, dx, vs, rfl, h2, q, q2⟩
  · rename_i d hi
    obtain ⟨v, e, h⟩ := r.fz hi
    exact ⟨v, e, k d v H S hw (.refl r.sh) (BDat.of r.sh h)⟩
  · exact hw.elim
def wC (d : D) : WE := fun _ _ Q => Q d
theorem ed_int {i j} : ED X E (.Constant (.int i) j pos) (wC (.int i)) :=
  ⟨_, pe_int, fun x ρ Q hw F σ H S Q' r ex k => k _ _ H S hw (.refl r.sh) (by unfold Dat; rfl)⟩
theorem ed_bl {i j} : ED X E (.Constant (.bool i) j pos) (wC (.bl i)) :=
  ⟨_, pe_bl, fun x ρ Q hw F σ H S Q' r ex k => k _ _ H S hw (.refl r.sh) (by unfold Dat; rfl)⟩
theorem ed_non {j} : ED X E (.Constant .none j pos) (wC .non) :=
  ⟨_, pe_non, fun x ρ Q hw F σ H S Q' r ex k => k _ _ H S hw (.refl r.sh) (by unfold Dat; rfl)⟩
theorem ed_str {i j} : ED X E (.Constant (.str i) j pos) (wC (.str i)) :=
  ⟨_, pe_str, fun x ρ Q hw F σ H S Q' r ex k => k _ _ H S hw (.refl r.sh) (by unfold Dat; rfl)⟩
/-- a constant text of the module -/
theorem ed_glob {x : Str} {u : Value} {d : D} {v : V} (hg : Gl X x) (hm : X.mg x = some u) (r : RelV v u) (hd : ∀ S, Dat S d v) (hdb : (x == ("__debug__" : Str)) = false := by decide) : ED X E (.Name x pos) (wC d) :=
  ⟨_, pe_glob hg hm r hdb, fun x ρ Q hw F σ H S Q' r ex k => k _ _ H S hw (.refl r.sh) (hd S)⟩

/-! ### operators -/
structure OpD (X : Cx) (f : Value → Value → Sem Value) (g : D → D → (D → Prop) → Prop) : Prop where
  ex : ∃ r : R2, OpR X f r ∧ ∀ (d e : D) (Q : D → Prop), g d e Q → ∀ (H S : Hp) (u v : V) (Q' : VK), Same S H → BDat H S d u → BDat H S e v → (∀ z y H' S', Q z → Grow H S H' S' → Dat S' z y → Q' y H') → r u v H Q'
def wOp (g : D → D → (D → Prop) → Prop) (wa wb : WE) : WE := fun x ρ Q => wa x ρ fun d => wb x ρ fun e => g d e Q
theorem op_sound {f : Value → Value → Sem Value} {g : D → D → (D → Prop) → Prop} (ho : OpD X f g) (ha : BD X E a wa) (hb : BD X E b wb) : ∃ r ta tb, OpR X f r ∧ PE X a ta ∧ PE X b tb ∧
    ∀ (x : XS) (ρ : Ev) (Q : D → Prop), wOp g wa wb x ρ Q → ∀ (F : Fr) (σ : L2.St) (H S : Hp) (Q' : VK), Rep F ρ σ H S → ExOk X.mg E x H S →
    (∀ d v H' S', Q d → Grow H S H' S' → Dat S' d v → Q' v H') → tOp r ta tb σ H Q' := by
  obtain ⟨r, o, so⟩ := ho.ex
  obtain ⟨ta, pa, sa⟩ := ha.ex
  obtain ⟨tb, pb, sb⟩ := hb.ex
  refine ⟨r, ta, tb, o, pa, pb, fun x ρ Q hw F σ H S Q' rp ex k => ?_⟩
  refine sa x ρ _ hw F σ H S _ rp ex fun d u H1 S1 q1 g1 h1 => ?_
  refine sb x ρ _ q1 F σ H1 S1 _ (rp.grow g1) (ex.grow g1) fun e v H2 S2 q2 g2 h2 => ?_
  exact so d e Q q2 H2 S2 u v Q' g2.sh (h1.grow g2) h2 fun z y H3 S3 q3 g3 h3 => k z y H3 S3 q3 ((g1.trans g2).trans g3) h3
theorem ed_op {op : Operator} {g : D → D → (D → Prop) → Prop} (ho : OpD X (binaryOp op) g) (ha : BD X E a wa) (hb : BD X E b wb) : ED X E (.BinOp a op b pos) (wOp g wa wb) := by
  obtain ⟨r, ta, tb, o, pa, pb, s⟩ := op_sound ho ha hb
  exact ⟨_, pe_op o pa pb, s⟩
theorem ed_cmp {op : CmpOp} {g : D → D → (D → Prop) → Prop} (ho : OpD X (compareOp op) g) (ha : BD X E a wa) (hb : BD X E b wb) (hm : behindInMarks op b = false := by first | exact nomark _ | with_unfolding_all rfl) : ED X E (.Compare a [op] [b] pos) (wOp g wa wb) := by
  obtain ⟨r, ta, tb, o, pa, pb, s⟩ := op_sound ho ha hb
  exact ⟨_, pe_cmpR o pa pb hm, s⟩
/-- the truth that a comparison tells -/
def onBl (Q : Bool → Prop) : D → Prop
  | .bl k => Q k
  | _ => False
theorem onBl_sound {Q : Bool → Prop} {d : D} {S : Hp} {v : V} (h : onBl Q d) (hd : Dat S d v) : ∃ k, v = .bl k ∧ Q k := by
  cases d with
  | bl k => unfold Dat at hd; exact ⟨k, hd, h⟩
  | _ => exact h.elim
def wtOn (w : WE) : WT := fun x ρ Q => w x ρ (onBl Q)
theorem td_cmp {op : CmpOp} {g : D → D → (D → Prop) → Prop} (ho : OpD X (compareOp op) g) (ha : BD X E a wa) (hb : BD X E b wb) (hm : behindInMarks op b = false := by first | exact nomark _ | with_unfolding_all rfl) :
    TD X E (.Compare a [op] [b] pos) (wtOn (wOp g wa wb)) := by
  obtain ⟨r, ta, tb, o, pa, pb, s⟩ := op_sound ho ha hb
  refine ⟨_, pt_cmpR o pa pb hm, fun x ρ Q hw F σ H S Q' rp ex k => ?_⟩
  refine s x ρ _ hw F σ H S _ rp ex fun d v H' S' q g hd => ?_
  obtain ⟨b, rfl, q⟩ := onBl_sound q hd
  exact ⟨b, rfl, k b H' S' q g⟩
def wChain (g g' : D → D → (D → Prop) → Prop) (wa wb wc : WE) : WE := fun x ρ Q => wa x ρ fun d => wb x ρ fun e => g d e (onBl fun k => Br k (wc x ρ fun f => g' e f Q) (Q (.bl false)) ⟨⟩ ⟨⟩)
theorem chain_sound {c : Expr} {wc : WE} {f f' : Value → Value → Sem Value} {g g' : D → D → (D → Prop) → Prop} (ho : OpD X f g) (ho' : OpD X f' g') (ha : BD X E a wa) (hb : BD X E b wb) (hc : BD X E c wc) :
    ∃ r r' ta tb tc, OpR X f r ∧ OpR X f' r' ∧ PE X a ta ∧ PE X b tb ∧ PE X c tc ∧ ∀ (x : XS) (ρ : Ev) (Q : D → Prop), wChain g g' wa wb wc x ρ Q → ∀ (F : Fr) (σ : L2.St) (H S : Hp) (Q' : VK), Rep F ρ σ H S → ExOk X.mg E x H S →
    (∀ d v H' S', Q d → Grow H S H' S' → Dat S' d v → Q' v H') → tChain r r' ta tb tc σ H Q' := by
  obtain ⟨r, o, so⟩ := ho.ex
  obtain ⟨r', o', so'⟩ := ho'.ex
  obtain ⟨ta, pa, sa⟩ := ha.ex
  obtain ⟨tb, pb, sb⟩ := hb.ex
  obtain ⟨tc, pc, sc⟩ := hc.ex
  refine ⟨r, r', ta, tb, tc, o, o', pa, pb, pc, fun x ρ Q hw F σ H S Q' rp ex k => ?_⟩
  refine sa x ρ _ hw F σ H S _ rp ex fun d u H1 S1 q1 g1 h1 => ?_
  refine sb x ρ _ q1 F σ H1 S1 _ (rp.grow g1) (ex.grow g1) fun e v H2 S2 q2 g2 h2 => ?_
  refine so d e _ q2 H2 S2 u v _ g2.sh (h1.grow g2) h2 fun z y H3 S3 q3 g3 h3 => ?_
  obtain ⟨kb, rfl, q3⟩ := onBl_sound q3 h3
  refine ⟨kb, rfl, ?_⟩
  have g13 := (g1.trans g2).trans g3
  cases kb with
  | false => exact iteF (k _ _ H3 S3 q3 g13 (by unfold Dat; rfl))
  | true =>
    refine iteT (sc x ρ _ q3 F σ H3 S3 _ (rp.grow g13) (ex.grow g13) fun z y H4 S4 q4 g4 h4 => ?_)
    exact so' e z Q q4 H4 S4 v y Q' g4.sh ((h2.grow g3).grow g4) h4 fun z y H5 S5 q5 g5 h5 => k z y H5 S5 q5 ((g13.trans g4).trans g5) h5
theorem ed_chain {c : Expr} {wc : WE} {op op' : CmpOp} {g g' : D → D → (D → Prop) → Prop} (ho : OpD X (compareOp op) g) (ho' : OpD X (compareOp op') g') (ha : BD X E a wa) (hb : BD X E b wb) (hc : BD X E c wc)
    (hm : lastMarks [op, op'] [b, c] = false := by with_unfolding_all rfl) : ED X E (.Compare a [op, op'] [b, c] pos) (wChain g g' wa wb wc) := by
  obtain ⟨r, r', ta, tb, tc, o, o', pa, pb, pc, s⟩ := chain_sound ho ho' ha hb hc
  exact ⟨_, pe_chain o o' pa pb pc hm, s⟩
theorem td_chain {c : Expr} {wc : WE} {op op' : CmpOp} {g g' : D → D → (D → Prop) → Prop} (ho : OpD X (compareOp op) g) (ho' : OpD X (compareOp op') g') (ha : BD X E a wa) (hb : BD X E b wb) (hc : BD X E c wc)
    (hm : lastMarks [op, op'] [b, c] = false := by with_unfolding_all rfl) : TD X E (.Compare a [op, op'] [b, c] pos) (wtOn (wChain g g' wa wb wc)) := by
  obtain ⟨r, r', ta, tb, tc, o, o', pa, pb, pc, s⟩ := chain_sound ho ho' ha hb hc
  refine ⟨_, pt_chain o o' pa pb pc hm, fun x ρ Q hw F σ H S Q' rp ex k => ?_⟩
  refine s x ρ _ hw F σ H S _ rp ex fun d v H' S' q g hd => ?_
  obtain ⟨b, rfl, q⟩ := onBl_sound q hd
  exact ⟨b, rfl, k b H' S' q g⟩

/-! ### truth -/
def trD : D → (Bool → Prop) → Prop
  | .non, Q => Q false
  | .bl b, Q => Q b
  | .int i, Q => Q (i != 0)
  | .str s, Q => s.length ≤ sizeLine ∧ Q ((s.length : Int) != 0)
  | .lst xs, Q => Q (!xs.isEmpty)
  | .tup xs, Q => Q (!xs.isEmpty)
  | _, _ => False
theorem Dats.emp {S : Hp} {xs : List D} {vs : List V} (h : Dats S xs vs) : vs.isEmpty = xs.isEmpty := by
  have := h.len
  cases xs <;> cases vs <;> simp_all
theorem trD_sound {K : PySem.W.Frag} {H S : Hp} {d : D} {v : V} {Q : Bool → Prop} (sh : Same S H) (hb : BDat H S d v) (h : trD d Q) : ∃ k, TruV K v H k ∧ Q k := by
  cases d with
  | non => simp only [BDat, Dat] at hb; subst hb; exact ⟨_, rfl, h⟩
  | bl b => simp only [BDat, Dat] at hb; subst hb; exact ⟨_, rfl, h⟩
  | int i => simp only [BDat, Dat] at hb; subst hb; exact ⟨_, rfl, h⟩
  | str s => simp only [BDat, Dat] at hb; subst hb; exact ⟨_, ⟨h.1, rfl⟩, h.2⟩
  | lst xs =>
    obtain ⟨a, vs, rfl, r, q⟩ := hb
    exact ⟨_, .inl ⟨vs, .of r, rfl⟩, by rw [q.emp]; exact h⟩
  | tup xs =>
    simp only [BDat, Dat] at hb
    obtain ⟨a, vs, rfl, r, q⟩ := hb
    exact ⟨_, .inr (.inl ⟨vs, .of (sh _ _ r), rfl⟩), by rw [q.emp]; exact h⟩
  | dct _ _ => exact h.elim
  | obj _ _ _ => exact h.elim
  | dkz _ _ => exact h.elim
  | ref _ => exact h.elim
  | scr _ => exact h.elim
def wtVal (wa : WE) : WT := fun x ρ Q => wa x ρ fun d => trD d Q
theorem td_val (ha : BD X E a wa) (he : ∀ whole, isTrue a X.env whole = (do let v ← whole; standAt a.pos; holding [v] (truthy v)) := by intro _; rfl) : TD X E a (wtVal wa) := by
  obtain ⟨ta, pa, sa⟩ := ha.ex
  refine ⟨_, pt_truth pa he, fun x ρ Q hw F σ H S Q' rp ex k => ?_⟩
  refine sa x ρ _ hw F σ H S _ rp ex fun d u H1 S1 q1 g1 h1 => ?_
  obtain ⟨kb, e, q⟩ := trD_sound g1.sh h1 q1
  exact ⟨kb, e, k kb H1 S1 q g1⟩
variable {wt wu : WT} {rest : List Expr}
def wtNot (wt : WT) : WT := fun x ρ Q => wt x ρ fun b => Q (!b)
theorem td_not (ha : TD X E a wt) : TD X E (.UnaryOp .Not a pos) (wtNot wt) := by
  obtain ⟨t, p, s⟩ := ha.ex
  exact ⟨_, pt_not p, fun x ρ Q hw F σ H S Q' rp ex k => s x ρ _ hw F σ H S _ rp ex fun b H' S' q g => k _ H' S' q g⟩
def wAnd (wt wu : WT) : WT := fun x ρ Q => wt x ρ fun b => Br b (wu x ρ Q) (Q false) ⟨⟩ ⟨⟩
def wOr (wt wu : WT) : WT := fun x ρ Q => wt x ρ fun b => Br b (Q true) (wu x ρ Q) ⟨⟩ ⟨⟩
theorem wd_and1 (ha : TD X E a wt) : WD X E (.BoolOp .And [a] pos) wt := by
  obtain ⟨t, p, s⟩ := ha.ex
  exact ⟨_, pw_and1 p, s⟩
theorem wd_or1 (ha : TD X E a wt) : WD X E (.BoolOp .Or [a] pos) wt := by
  obtain ⟨t, p, s⟩ := ha.ex
  exact ⟨_, pw_or1 p, s⟩
theorem wd_and (ha : TD X E a wt) (hb : WD X E (.BoolOp .And (b :: rest) pos) wu) : WD X E (.BoolOp .And (a :: b :: rest) pos) (wAnd wt wu) := by
  obtain ⟨t, p, s⟩ := ha.ex
  obtain ⟨t', p', s'⟩ := hb.ex
  refine ⟨_, pw_and p p', fun x ρ Q hw F σ H S Q' rp ex k => ?_⟩
  refine s x ρ _ hw F σ H S _ rp ex fun b H1 S1 q1 g1 => ?_
  cases b with
  | true => exact iteT (s' x ρ _ q1 F σ H1 S1 _ (rp.grow g1) (ex.grow g1) fun b H2 S2 q2 g2 => k b H2 S2 q2 (g1.trans g2))
  | false => exact iteF (k _ H1 S1 q1 g1)
theorem wd_or (ha : TD X E a wt) (hb : WD X E (.BoolOp .Or (b :: rest) pos) wu) : WD X E (.BoolOp .Or (a :: b :: rest) pos) (wOr wt wu) := by
  obtain ⟨t, p, s⟩ := ha.ex
  obtain ⟨t', p', s'⟩ := hb.ex
  refine ⟨_, pw_or p p', fun x ρ Q hw F σ H S Q' rp ex k => ?_⟩
  refine s x ρ _ hw F σ H S _ rp ex fun b H1 S1 q1 g1 => ?_
  cases b with
  | true => exact iteT (k _ H1 S1 q1 g1)
  | false => exact iteF (s' x ρ _ q1 F σ H1 S1 _ (rp.grow g1) (ex.grow g1) fun b H2 S2 q2 g2 => k b H2 S2 q2 (g1.trans g2))
theorem td_w (h : WD X E e wt) : TD X E e wt := by
  obtain ⟨t, p, s⟩ := h.ex
  exact ⟨_, p.pt, s⟩
/-! .. as values -/
theorem ed_one {op} (h : ED X E a wa) : ED X E (.BoolOp op [a] pos) wa := by
  obtain ⟨t, p, s⟩ := h.ex
  exact ⟨_, pe_one p, s⟩
def wAndV (wa wb : WE) : WE := fun x ρ Q => wa x ρ fun d => trD d fun k => Br k (wb x ρ Q) (Q d) ⟨⟩ ⟨⟩
def wOrV (wa wb : WE) : WE := fun x ρ Q => wa x ρ fun d => trD d fun k => Br k (Q d) (wb x ρ Q) ⟨⟩ ⟨⟩
theorem ed_and (ha : ED X E a wa) (hb : ED X E (.BoolOp .And (b :: rest) pos) wb) : ED X E (.BoolOp .And (a :: b :: rest) pos) (wAndV wa wb) := by
  obtain ⟨t, p, s⟩ := ha.ex
  obtain ⟨t', p', s'⟩ := hb.ex
  refine ⟨_, pe_andT p p', fun x ρ Q hw F σ H S Q' rp ex k => ?_⟩
  refine s x ρ _ hw F σ H S _ rp ex fun d u H1 S1 q1 g1 h1 => ?_
  obtain ⟨kb, e, q⟩ := trD_sound (K := X.K) g1.sh (BDat.of g1.sh h1) q1
  refine ⟨kb, e, ?_⟩
  cases kb with
  | true => exact iteT (s' x ρ _ q F σ H1 S1 _ (rp.grow g1) (ex.grow g1) fun d v H2 S2 q2 g2 h2 => k d v H2 S2 q2 (g1.trans g2) h2)
  | false => exact iteF (k _ _ H1 S1 q g1 h1)
theorem ed_or (ha : ED X E a wa) (hb : ED X E (.BoolOp .Or (b :: rest) pos) wb) : ED X E (.BoolOp .Or (a :: b :: rest) pos) (wOrV wa wb) := by
  obtain ⟨t, p, s⟩ := ha.ex
  obtain ⟨t', p', s'⟩ := hb.ex
  refine ⟨_, pe_orT p p', fun x ρ Q hw F σ H S Q' rp ex k => ?_⟩
  refine s x ρ _ hw F σ H S _ rp ex fun d u H1 S1 q1 g1 h1 => ?_
  obtain ⟨kb, e, q⟩ := trD_sound (K := X.K) g1.sh (BDat.of g1.sh h1) q1
  refine ⟨kb, e, ?_⟩
  cases kb with
  | true => exact iteT (k _ _ H1 S1 q g1 h1)
  | false => exact iteF (s' x ρ _ q F σ H1 S1 _ (rp.grow g1) (ex.grow g1) fun d v H2 S2 q2 g2 h2 => k d v H2 S2 q2 (g1.trans g2) h2)
def wNotV (wa : WE) : WE := fun x ρ Q => wa x ρ fun d => trD d fun k => Q (.bl (!k))
theorem ed_not (ha : BD X E a wa) : ED X E (.UnaryOp .Not a pos) (wNotV wa) := by
  obtain ⟨t, p, s⟩ := ha.ex
  refine ⟨_, pe_notT p, fun x ρ Q hw F σ H S Q' rp ex k => ?_⟩
  refine s x ρ _ hw F σ H S _ rp ex fun d u H1 S1 q1 g1 h1 => ?_
  obtain ⟨kb, e, q⟩ := trD_sound (K := X.K) g1.sh h1 q1
  exact ⟨kb, e, k _ _ H1 S1 q g1 (by unfold Dat; rfl)⟩
def wIf (wt : WT) (wa wb : WE) : WE := fun x ρ Q => wt x ρ fun b => Br b (wa x ρ Q) (wb x ρ Q) ⟨⟩ ⟨⟩
theorem ed_ifexp {c : Expr} (hc : TD X E c wt) (ha : ED X E a wa) (hb : ED X E b wb) : ED X E (.IfExp c a b pos) (wIf wt wa wb) := by
  obtain ⟨t, p, s⟩ := hc.ex
  obtain ⟨ta, pa, sa⟩ := ha.ex
  obtain ⟨tb, pb, sb⟩ := hb.ex
  refine ⟨_, pe_ifExp p pa pb, fun x ρ Q hw F σ H S Q' rp ex k => ?_⟩
  refine s x ρ _ hw F σ H S _ rp ex fun b H1 S1 q1 g1 => ?_
  cases b with
  | true => exact iteT (sa x ρ _ q1 F σ H1 S1 _ (rp.grow g1) (ex.grow g1) fun d v H2 S2 q2 g2 h2 => k d v H2 S2 q2 (g1.trans g2) h2)
  | false => exact iteF (sb x ρ _ q1 F σ H1 S1 _ (rp.grow g1) (ex.grow g1) fun d v H2 S2 q2 g2 h2 => k d v H2 S2 q2 (g1.trans g2) h2)

/-! ### arguments, displays -/
def wNil : WL := fun _ _ Q => Q []
theorem ad_nil : AD X E [] wNil := ⟨_, pa_nil, fun x ρ Q hw F σ H S Q' rp ex k => k [] [] H S hw (.refl rp.sh) .nil⟩
def wCons (wa : WE) (wl : WL) : WL := fun x ρ Q => wa x ρ fun d => wl x ρ fun ds => Q (d :: ds)
theorem ad_cons (ha : ED X E a wa) (hr : AD X E es wl) (hs : starEach (a :: es) X.env = (false, eval a X.env) :: starEach es X.env := by rfl) : AD X E (a :: es) (wCons wa wl) := by
  obtain ⟨t, p, s⟩ := ha.ex
  obtain ⟨t', p', s'⟩ := hr.ex
  refine ⟨_, pa_cons p p' hs, fun x ρ Q hw F σ H S Q' rp ex k => ?_⟩
  refine s x ρ _ hw F σ H S _ rp ex fun d u H1 S1 q1 g1 h1 => ?_
  refine s' x ρ _ q1 F σ H1 S1 _ (rp.grow g1) (ex.grow g1) fun ds vs H2 S2 q2 g2 h2 => ?_
  exact k _ _ H2 S2 q2 (g1.trans g2) (.cons (Dat.mono g2.ss _ _ h1) h2)
theorem ab_nil : AB X E [] wNil := ⟨_, pa_nil, fun x ρ Q hw F σ H S Q' rp ex k => k [] [] H S hw (.refl rp.sh) rfl⟩
theorem ab_cons (ha : BD X E a wa) (hr : AB X E es wl) (hs : starEach (a :: es) X.env = (false, eval a X.env) :: starEach es X.env := by rfl) : AB X E (a :: es) (wCons wa wl) := by
  obtain ⟨t, p, s⟩ := ha.ex
  obtain ⟨t', p', s'⟩ := hr.ex
  refine ⟨_, pa_cons p p' hs, fun x ρ Q hw F σ H S Q' rp ex k => ?_⟩
  refine s x ρ _ hw F σ H S _ rp ex fun d u H1 S1 q1 g1 h1 => ?_
  refine s' x ρ _ q1 F σ H1 S1 _ (rp.grow g1) (ex.grow g1) fun ds vs H2 S2 q2 g2 h2 => ?_
  exact k _ _ H2 S2 q2 (g1.trans g2) ⟨_, _, rfl, h1.grow g2, h2⟩
def wTup (wl : WL) : WE := fun x ρ Q => wl x ρ fun ds => ds.length ≤ sizeLine ∧ Q (.tup ds)
def wLst (wl : WL) : WL := fun x ρ Q => wl x ρ fun ds => ds.length ≤ sizeLine ∧ Q ds
theorem ed_tup {k1} (h : AD X E es wl) : ED X E (.Tuple es k1 pos) (wTup wl) := by
  obtain ⟨t, p, s⟩ := h.ex
  refine ⟨_, pe_tup p, fun x ρ Q hw F σ H S Q' rp ex k => ?_⟩
  refine s x ρ _ hw F σ H S _ rp ex fun ds vs H1 S1 q1 g1 h1 => ⟨by rw [h1.len]; exact q1.1, fun p hp => ?_⟩
  have h0 := g1.freeS hp
  refine k _ _ _ (upd S1 p (.tup vs)) q1.2 ((g1.lay hp).share (g1.freeH hp) h0 upd_same) ?_
  unfold Dat
  exact ⟨p, vs, rfl, upd_same, Dats.mono (same_upd h0) _ _ h1⟩
theorem df_lst (h : AD X E es wl) : DF X E (.List es pos) (wLst wl) := by
  obtain ⟨t, p, s⟩ := h.ex
  refine ⟨_, pe_lst p, fun x ρ Q hw F σ H S Q' rp ex k => ?_⟩
  refine s x ρ _ hw F σ H S _ rp ex fun ds vs H1 S1 q1 g1 h1 => ⟨by rw [h1.len]; exact q1.1, fun p hp => ?_⟩
  exact k _ _ _ _ S1 q1.2 (g1.lay hp) (g1.freeH hp) (g1.freeS hp) upd_same h1
def wUn (f : Int → Int) (wa : WE) : WE := fun x ρ Q => wa x ρ fun d => match d with
  | .int i => Q (.int (f i))
  | _ => False
theorem ed_un {op : UnaryOp} {f : Int → Int} (ho : UnR X (unaryOp op) (rU fun i => .int (f i))) (ha : ED X E a wa) : ED X E (.UnaryOp op a pos) (wUn f wa) := by
  obtain ⟨t, p, s⟩ := ha.ex
  refine ⟨_, pe_un ho p, fun x ρ Q hw F σ H S Q' rp ex k => ?_⟩
  refine s x ρ _ hw F σ H S _ rp ex fun d u H1 S1 q1 g1 h1 => ?_
  cases d with
  | int i =>
    unfold Dat at h1
    exact ⟨i, h1, k _ _ H1 S1 q1 g1 (by unfold Dat; rfl)⟩
  | _ => exact q1.elim
end
end NL

namespace NL
open PySem PySem.Spec L2
open PyProof.Rows hiding St
variable [KC]

/-! ### the operators by data -/
theorem Dat.i {S : Hp} {i : Int} : Dat S (.int i) (.int i) := by unfold Dat; rfl
theorem Dat.s {S : Hp} {i : Str} : Dat S (.str i) (.str i) := by unfold Dat; rfl
theorem Dat.b {S : Hp} {i : Bool} : Dat S (.bl i) (.bl i) := by unfold Dat; rfl
theorem Dat.n {S : Hp} : Dat S .non .non := by unfold Dat; rfl
theorem BDat.i {H S : Hp} {i : Int} {v : V} (h : BDat H S (.int i) v) : v = .int i := by unfold BDat Dat at h; exact h
theorem BDat.s {H S : Hp} {i : Str} {v : V} (h : BDat H S (.str i) v) : v = .str i := by unfold BDat Dat at h; exact h
theorem BDat.b {H S : Hp} {i : Bool} {v : V} (h : BDat H S (.bl i) v) : v = .bl i := by unfold BDat Dat at h; exact h
theorem BDat.n {H S : Hp} {v : V} (h : BDat H S .non v) : v = .non := by unfold BDat Dat at h; exact h
theorem Dat.lstOf {S : Hp} {xs : List D} {vs : List V} {p : Addr} (h : S p = some (.lst vs)) (q : Dats S xs vs) : Dat S (.lst xs) (.ref p) := by
  unfold Dat
  exact ⟨p, vs, rfl, h, q⟩
/-- a list just laid, shared -/
theorem lay_lst {H S : Hp} {xs : List D} {vs : List V} {p : Addr} (sh : Same S H) (hp : H p = none) (q : Dats S xs vs) :
    Grow H S (upd H p (.lst vs)) (upd S p (.lst vs)) ∧ Dat (upd S p (.lst vs)) (.lst xs) (.ref p) := by
  have h0 := sh.free hp
  exact ⟨((Grow.refl sh).lay hp).share hp h0 upd_same, .lstOf upd_same (Dats.mono (same_upd h0) _ _ q)⟩

section
variable {X : Cx}
def gAdd : D → D → (D → Prop) → Prop
  | .int i, .int j, Q => Q (.int (i + j))
  | .str s, .str t, Q => s.length + t.length ≤ sizeLine ∧ Q (.str (s ++ t))
  | .lst xs, .lst ys, Q => xs.length + ys.length ≤ sizeLine ∧ Q (.lst (xs ++ ys))
  | _, _, _ => False
theorem dAdd : OpD X (binaryOp .Add) gAdd := by
  refine ⟨_, op_add.or (op_add_str.or op_cat), fun d e Q h H S u v Q' sh hd he k => ?_⟩
  unfold gAdd at h
  split at h
  · exact .inl ⟨_, _, hd.i, he.i, k _ _ H S h (.refl sh) .i⟩
  · exact .inr (.inl ⟨_, _, hd.s, he.s, h.1, k _ _ H S h.2 (.refl sh) .s⟩)
  · obtain ⟨a, vs, rfl, ra, qa⟩ := hd
    obtain ⟨b, ws, rfl, rb, qb⟩ := he
    refine .inr (.inr ⟨a, b, vs, ws, rfl, rfl, ra, rb, by rw [qa.len, qb.len]; exact h.1, fun p hp => ?_⟩)
    obtain ⟨g, z⟩ := lay_lst sh hp (qa.app qb)
    exact k _ _ _ _ h.2 g z
  · exact h.elim
def gInt (C : Int → Int → Prop) (f : Int → Int → Int) : D → D → (D → Prop) → Prop
  | .int i, .int j, Q => C i j ∧ Q (.int (f i j))
  | _, _, _ => False
def gInt0 (f : Int → Int → Int) : D → D → (D → Prop) → Prop
  | .int i, .int j, Q => Q (.int (f i j))
  | _, _, _ => False
theorem dInt {f : Value → Value → Sem Value} {C : Int → Int → Prop} {g : Int → Int → Int} (ho : OpR X f (rI C fun i j => .int (g i j))) : OpD X f (gInt C g) := by
  refine ⟨_, ho, fun d e Q h H S u v Q' sh hd he k => ?_⟩
  unfold gInt at h
  split at h
  · exact ⟨_, _, hd.i, he.i, h.1, k _ _ H S h.2 (.refl sh) .i⟩
  · exact h.elim
theorem dInt0 {f : Value → Value → Sem Value} {g : Int → Int → Int} (ho : OpR X f (rI0 fun i j => .int (g i j))) : OpD X f (gInt0 g) := by
  refine ⟨_, ho, fun d e Q h H S u v Q' sh hd he k => ?_⟩
  unfold gInt0 at h
  split at h
  · exact ⟨_, _, hd.i, he.i, k _ _ H S h (.refl sh) .i⟩
  · exact h.elim
theorem dSub : OpD X (binaryOp .Sub) (gInt0 fun i j => i - j) := dInt0 op_sub
theorem dDiv : OpD X (binaryOp .FloorDiv) (gInt CDivW fun i j => i / j) := dInt op_fdivW
theorem dMod : OpD X (binaryOp .Mod) (gInt (fun _ j => 0 < j) fun i j => i % j) := dInt op_mod
theorem dPow : OpD X (binaryOp .Pow) (gInt CPow fun i j => i ^ j.toNat) := dInt op_pow
theorem dShl : OpD X (binaryOp .LShift) (gInt CPow fun i j => i * 2 ^ j.toNat) := dInt op_shl
theorem dShr : OpD X (binaryOp .RShift) (gInt (fun _ j => 0 ≤ j) fun i j => i / 2 ^ j.toNat) := dInt op_shr
theorem dAnd : OpD X (binaryOp .BitAnd) (gInt0 fun i j => Builtin.bitAnd i j) := dInt0 op_and
def srep (n : Nat) (s : Str) : Str := ⟨((List.replicate n s.cps.toList).flatten).toArray⟩
theorem fold_app (n : Nat) (a b : Array Nat) : ((List.replicate n a).foldl (· ++ ·) b).toList = b.toList ++ (List.replicate n a.toList).flatten := by
  induction n generalizing b with
  | zero => simp
  | succ n ih =>
    simp only [List.replicate_succ, List.foldl_cons, List.flatten_cons]
    rw [ih, Array.toList_append, List.append_assoc]
theorem op_repS : OpR X (binaryOp .Mult) (fun x y H Q => ∃ i k, x = .str i ∧ y = .int k ∧ (-(2 ^ 63) ≤ k ∧ k < 2 ^ 63 ∧ i.length * k.toNat ≤ sizeLine) ∧ Q (.str (srep k.toNat i)) H) := by
  intro pins s σ H x y v u Q I rx ry h
  obtain ⟨i, k, rfl, rfl, ⟨k1, k2, k3⟩, q⟩ := h
  obtain ⟨t, rfl⟩ := rx
  obtain ⟨t', rfl⟩ := ry
  have fin : ∀ tk : Tok, ∀ z, z = srep k.toNat i → EP X pins σ Q (.str z tk) { s with toks := s.toks + 1 } := fun tk z hz => by
    subst hz
    exact ⟨.str _, H, I.tok _, ⟨_, rfl⟩, q⟩
  refine P.mul_str (by rw [decide_eq_false (by omega), decide_eq_false (by omega)]; rfl) (fun h1 h2 => ?_) (fun h1 h2 => ?_) ?_
  · have hk : k = (k.toNat : Int) := by omega
    have hs : (sizeLine : Int) = 16777216 := by rfl
    have h3 : (i.length : Int) * k ≤ 16777216 := by
      rw [hk]
      rw [← hs]
      exact_mod_cast k3
    have h4 : (i.length : Int) ≤ (2 ^ 63 - 1) / k := by
      rw [Int.le_ediv_iff_mul_le (by omega)]
      omega
    omega
  · unfold Builtin.Str.tooLong
    exact decide_eq_false (by omega)
  · have lz : (srep k.toNat i).length ≤ sizeLine := by
      have : (srep k.toNat i).length = i.length * k.toNat := by
        show (List.flatten _).toArray.size = _
        rw [List.size_toArray, List.length_flatten, List.map_replicate, List.sum_replicate_nat, Nat.mul_comm]
        rfl
      rw [this]
      exact k3
    split
    · rename_i h1
      refine ⟨by show (#[] : Array Nat).size ≤ _; simp, fin _ _ ?_⟩
      have : k.toNat = 0 := by omega
      rw [this]
      rfl
    · rename_i h1
      split
      · rename_i h2
        have e : i = srep k.toNat i := by
          rcases Bool.or_eq_true _ _ ▸ h2 with h2 | h2
          · have : k.toNat = 1 := by
              have : k = 1 := by simpa using h2
              omega
            rw [this]
            show i = ⟨(List.flatten [i.cps.toList]).toArray⟩
            simp
          · have : i.cps = #[] := by
              have : i.cps.size = 0 := (beq_iff_eq.mp h2 : i.length = 0)
              exact Array.eq_empty_of_size_eq_zero this
            have e2 : i = ⟨#[]⟩ := by
              cases i
              simp at this
              rw [this]
            rw [e2]
            unfold srep
            simp
        exact ⟨.str i, H, I, ⟨_, rfl⟩, by rw [e]; exact q⟩
      · have e : (⟨List.foldl (fun x1 x2 => x1 ++ x2) #[] (List.replicate k.toNat i.cps)⟩ : Str) = srep k.toNat i := by
          unfold srep
          congr 1
          apply Array.toList_inj.mp
          have := fold_app k.toNat i.cps #[]
          simpa using this
        exact ⟨by rw [e]; exact lz, fin _ _ e⟩
def gMul : D → D → (D → Prop) → Prop
  | .int i, .int j, Q => CMulW i j ∧ Q (.int (i * j))
  | .str s, .int k, Q => (-(2 ^ 63) ≤ k ∧ k < 2 ^ 63 ∧ s.length * k.toNat ≤ sizeLine) ∧ Q (.str (srep k.toNat s))
  | .lst xs, .int k, Q => (-(2 ^ 63) ≤ k ∧ k < 2 ^ 63 ∧ xs.length * k.toNat ≤ sizeLine) ∧ Q (.lst (List.replicate k.toNat xs).flatten)
  | _, _, _ => False
theorem dMul : OpD X (binaryOp .Mult) gMul := by
  refine ⟨_, op_mulW.or (op_repS.or op_rep), fun d e Q h H S u v Q' sh hd he k => ?_⟩
  unfold gMul at h
  split at h
  · exact .inl ⟨_, _, hd.i, he.i, h.1, k _ _ H S h.2 (.refl sh) .i⟩
  · exact .inr (.inl ⟨_, _, hd.s, he.i, h.1, k _ _ H S h.2 (.refl sh) .s⟩)
  · obtain ⟨a, vs, rfl, ra, qa⟩ := hd
    refine .inr (.inr ⟨a, _, vs, rfl, he.i, ra, h.1.1, h.1.2.1, by rw [qa.len]; exact h.1.2.2, fun p hp => ?_⟩)
    obtain ⟨g, z⟩ := lay_lst sh hp (qa.rep _)
    exact k _ _ _ _ h.2 g z
  · exact h.elim

/-! ### new lists by operators -/
structure FopD (X : Cx) (f : Value → Value → Sem Value) (g : D → D → (List D → Prop) → Prop) : Prop where
  ex : ∃ r : R2, OpR X f r ∧ ∀ (d e : D) (Q : List D → Prop), g d e Q → ∀ (H S : Hp) (u v : V) (Q' : VK), Same S H → BDat H S d u → BDat H S e v →
    (∀ z vs p, Q z → H p = none → Dats S z vs → Q' (.ref p) (upd H p (.lst vs))) → r u v H Q'
def gCatF : D → D → (List D → Prop) → Prop
  | .lst xs, .lst ys, Q => xs.length + ys.length ≤ sizeLine ∧ Q (xs ++ ys)
  | _, _, _ => False
theorem fCat : FopD X (binaryOp .Add) gCatF := by
  refine ⟨_, op_cat, fun d e Q h H S u v Q' sh hd he k => ?_⟩
  unfold gCatF at h
  split at h
  · obtain ⟨a, vs, rfl, ra, qa⟩ := hd
    obtain ⟨b, ws, rfl, rb, qb⟩ := he
    exact ⟨a, b, vs, ws, rfl, rfl, ra, rb, by rw [qa.len, qb.len]; exact h.1, fun p hp => k _ _ _ h.2 hp (qa.app qb)⟩
  · exact h.elim
def gRepF : D → D → (List D → Prop) → Prop
  | .lst xs, .int k, Q => (-(2 ^ 63) ≤ k ∧ k < 2 ^ 63 ∧ xs.length * k.toNat ≤ sizeLine) ∧ Q (List.replicate k.toNat xs).flatten
  | _, _, _ => False
theorem fRep : FopD X (binaryOp .Mult) gRepF := by
  refine ⟨_, op_rep, fun d e Q h H S u v Q' sh hd he k => ?_⟩
  unfold gRepF at h
  split at h
  · obtain ⟨a, vs, rfl, ra, qa⟩ := hd
    exact ⟨a, _, vs, rfl, he.i, ra, h.1.1, h.1.2.1, by rw [qa.len]; exact h.1.2.2, fun p hp => k _ _ _ h.2 hp (qa.rep _)⟩
  · exact h.elim
variable {E : XK} {e a b : Expr} {es : List Expr} {pos : Pos} {w wa wb : WE} {wl : WL}
def wOpF (g : D → D → (List D → Prop) → Prop) (wa wb : WE) : WL := fun x ρ Q => wa x ρ fun d => wb x ρ fun e => g d e Q
theorem df_op {op : Operator} {g : D → D → (List D → Prop) → Prop} (ho : FopD X (binaryOp op) g) (ha : BD X E a wa) (hb : BD X E b wb) : DF X E (.BinOp a op b pos) (wOpF g wa wb) := by
  obtain ⟨r, o, so⟩ := ho.ex
  obtain ⟨ta, pa, sa⟩ := ha.ex
  obtain ⟨tb, pb, sb⟩ := hb.ex
  refine ⟨_, pe_op o pa pb, fun x ρ Q hw F σ H S Q' rp ex k => ?_⟩
  refine sa x ρ _ hw F σ H S _ rp ex fun d u H1 S1 q1 g1 h1 => ?_
  refine sb x ρ _ q1 F σ H1 S1 _ (rp.grow g1) (ex.grow g1) fun e v H2 S2 q2 g2 h2 => ?_
  have g12 := g1.trans g2
  refine so d e Q q2 H2 S2 u v Q' g2.sh (h1.grow g2) h2 fun z vs p q3 hp h3 => ?_
  exact k z p vs _ S2 q3 (g12.lay hp) (g12.freeH hp) (g12.freeS hp) upd_same h3

/-! ### comparisons by data -/
/-- data that == tells apart as equality does, at most so deep -/
def nb : Nat → D → Bool
  | 0, _ => false
  | _ + 1, .non => true
  | _ + 1, .int _ => true
  | _ + 1, .str s => PyData.strOk s
  | n + 1, .lst xs => xs.all (nb n)
  | n + 1, .tup xs => xs.all (nb n)
  | _ + 1, _ => false
def toPy : Nat → D → PyData
  | 0, _ => .none
  | _ + 1, .non => .none
  | _ + 1, .int i => .int i
  | _ + 1, .str s => .str s
  | n + 1, .lst xs => .list (xs.map (toPy n))
  | n + 1, .tup xs => .tuple (xs.map (toPy n))
  | _ + 1, _ => .none
theorem nb_dp {H : Hp} {K : PySem.W.Frag} : ∀ (n : Nat) (d : D) (v : V), nb n d = true → Dat H d v → Dp K H v (toPy n d)
  | 0, _, _, h, _ => by simp [nb] at h
  | n + 1, .non, v, _, q => by unfold Dat at q; subst q; exact .non
  | n + 1, .int i, v, _, q => by unfold Dat at q; subst q; exact .int i
  | n + 1, .str i, v, _, q => by unfold Dat at q; subst q; exact .str i
  | n + 1, .bl _, v, h, _ => by simp [nb] at h
  | n + 1, .dct _ _, v, h, _ => by simp [nb] at h
  | n + 1, .obj _ _ _, v, h, _ => by simp [nb] at h
  | n + 1, .dkz _ _, v, h, _ => by simp [nb] at h
  | n + 1, .ref _, v, h, _ => by simp [nb] at h
  | n + 1, .scr _, v, h, _ => by simp [nb] at h
  | n + 1, .lst xs, v, h, q => by
    unfold Dat at q
    obtain ⟨a, vs, rfl, r, q⟩ := q
    have h' : ∀ x ∈ xs, nb n x = true := by simpa [nb] using h
    refine .lst (.of r) ?_
    clear r h
    induction xs generalizing vs with
    | nil => unfold Dats at q; subst q; exact .nil
    | cons x xs ih =>
      unfold Dats at q
      obtain ⟨v, r, rfl, q1, q2⟩ := q
      exact .cons (nb_dp n x v (h' x (by simp)) q1) (ih r q2 fun y hy => h' y (by simp [hy]))
  | n + 1, .tup xs, v, h, q => by
    unfold Dat at q
    obtain ⟨a, vs, rfl, r, q⟩ := q
    have h' : ∀ x ∈ xs, nb n x = true := by simpa [nb] using h
    refine .tup (.of r) ?_
    clear r h
    induction xs generalizing vs with
    | nil => unfold Dats at q; subst q; exact .nil
    | cons x xs ih =>
      unfold Dats at q
      obtain ⟨v, r, rfl, q1, q2⟩ := q
      exact .cons (nb_dp n x v (h' x (by simp)) q1) (ih r q2 fun y hy => h' y (by simp [hy]))
omit [KC] in
theorem nb_shape : ∀ (n : Nat) (d : D), nb n d = true → (toPy n d).canLay0 = true ∧ (toPy n d).depth ≤ n
  | 0, _, h => by simp [nb] at h
  | n + 1, .non, _ => by simp [toPy, PyData.canLay0, PyData.depth]
  | n + 1, .int i, _ => by simp [toPy, PyData.canLay0, PyData.depth]
  | n + 1, .str i, h => by simpa [toPy, PyData.canLay0, PyData.depth, nb] using h
  | n + 1, .bl _, h => by simp [nb] at h
  | n + 1, .dct _ _, h => by simp [nb] at h
  | n + 1, .obj _ _ _, h => by simp [nb] at h
  | n + 1, .dkz _ _, h => by simp [nb] at h
  | n + 1, .ref _, h => by simp [nb] at h
  | n + 1, .scr _, h => by simp [nb] at h
  | n + 1, .lst xs, h => by
    have h' : ∀ x ∈ xs, nb n x = true := by simpa [nb] using h
    have key : PyData.canLayAll0 (xs.map (toPy n)) = true ∧ PyData.depthAll (xs.map (toPy n)) ≤ n := by
      clear h
      induction xs with
      | nil => simp [PyData.canLayAll0, PyData.depthAll]
      | cons x xs ih =>
        obtain ⟨i1, i2⟩ := ih fun y hy => h' y (by simp [hy])
        obtain ⟨j1, j2⟩ := nb_shape n x (h' x (by simp))
        simp only [List.map_cons, PyData.canLayAll0, PyData.depthAll, i1, j1, Bool.and_self, true_and]
        omega
    simp only [toPy, PyData.canLay0, PyData.depth, key.1, true_and]
    omega
  | n + 1, .tup xs, h => by
    have h' : ∀ x ∈ xs, nb n x = true := by simpa [nb] using h
    have key : PyData.canLayAll0 (xs.map (toPy n)) = true ∧ PyData.depthAll (xs.map (toPy n)) ≤ n := by
      clear h
      induction xs with
      | nil => simp [PyData.canLayAll0, PyData.depthAll]
      | cons x xs ih =>
        obtain ⟨i1, i2⟩ := ih fun y hy => h' y (by simp [hy])
        obtain ⟨j1, j2⟩ := nb_shape n x (h' x (by simp))
        simp only [List.map_cons, PyData.canLayAll0, PyData.depthAll, i1, j1, Bool.and_self, true_and]
        omega
    simp only [toPy, PyData.canLay0, PyData.depth, key.1, true_and]
    omega
omit [KC] in
theorem eqvAll_iff {n : Nat} (ih : ∀ d e : D, nb n d = true → nb n e = true → (PyData.eqv (toPy n d) (toPy n e) = true ↔ d = e)) : ∀ (xs ys : List D), (∀ x ∈ xs, nb n x = true) → (∀ y ∈ ys, nb n y = true) →
    (PyData.eqvAll (xs.map (toPy n)) (ys.map (toPy n)) = true ↔ xs = ys)
  | [], [], _, _ => by simp [PyData.eqvAll]
  | [], _ :: _, _, _ => by simp [PyData.eqvAll]
  | _ :: _, [], _, _ => by simp [PyData.eqvAll]
  | x :: xs, y :: ys, hx, hy => by
    simp only [List.map_cons, PyData.eqvAll, Bool.and_eq_true, List.cons.injEq]
    rw [ih x y (hx x (by simp)) (hy y (by simp)), eqvAll_iff ih xs ys (fun z hz => hx z (by simp [hz])) fun z hz => hy z (by simp [hz])]
omit [KC] in
theorem eqv_iff : ∀ (n : Nat) (d e : D), nb n d = true → nb n e = true → (PyData.eqv (toPy n d) (toPy n e) = true ↔ d = e)
  | 0, _, _, h, _ => by simp [nb] at h
  | n + 1, d, e, h, g => by
    have ih := eqv_iff n
    cases d <;> cases e <;> simp_all [nb, toPy, PyData.eqv]
    · rename_i xs ys
      exact eqvAll_iff ih xs ys h g
    · rename_i xs ys
      exact eqvAll_iff ih xs ys h g
omit [KC] in
theorem nb_shaped {d : D} (h : nb 20 d = true) : SeqAt.shaped (toPy 20 d) = true := by
  obtain ⟨h1, h2⟩ := nb_shape 20 d h
  unfold SeqAt.shaped
  rw [h1, decide_eq_true (by omega)]
  rfl
open Classical in
noncomputable def deq (d e : D) : Bool := decide (d = e)
def gEq (neg : Bool) : D → D → (D → Prop) → Prop
  | .bl i, .bl j, Q => Q (.bl (neg ^^ (i == j)))
  | .int i, .int j, Q => Q (.bl (neg ^^ decide (i = j)))
  | .str i, .str j, Q => Q (.bl (neg ^^ decide (i = j)))
  | d, e, Q => (nb 20 d = true ∧ nb 20 e = true) ∧ Q (.bl (neg ^^ deq d e))
omit [KC] in
theorem eqv_deq {d e : D} (h : nb 20 d = true) (g : nb 20 e = true) : PyData.eqv (toPy 20 d) (toPy 20 e) = deq d e := by
  rw [Bool.eq_iff_iff, eqv_iff 20 d e h g]
  simp [deq]
omit [KC] in
theorem dec_bl' {i j : Bool} : decide (V.bl i = V.bl j) = (i == j) := by
  rw [Bool.eq_iff_iff]
  simp
theorem dEq {k : Nat} (hr : Room k X.A) : OpD X (compareOp .Eq) (gEq false) := by
  refine ⟨_, op_eq.or (op_eqD hr.units), fun d e Q h H S u v Q' sh hd he k => ?_⟩
  unfold gEq at h
  split at h
  · cases hd.b
    cases he.b
    exact .inl ⟨rfl, by rw [dec_bl']; simpa using k _ _ H S h (.refl sh) .b⟩
  · cases hd.i
    cases he.i
    exact .inl ⟨rfl, by simpa using k _ _ H S h (.refl sh) .b⟩
  · cases hd.s
    cases he.s
    exact .inl ⟨rfl, by simpa using k _ _ H S h (.refl sh) .b⟩
  · obtain ⟨⟨n1, n2⟩, h⟩ := h
    refine .inr ⟨_, _, nb_dp 20 _ u n1 (hd.full sh), nb_dp 20 _ v n2 (he.full sh), nb_shaped n1, nb_shaped n2, ?_⟩
    rw [eqv_deq n1 n2]
    simpa using k _ _ H S h (.refl sh) .b
theorem dNe {k : Nat} (hr : Room k X.A) : OpD X (compareOp .NotEq) (gEq true) := by
  refine ⟨_, op_ne.or (op_neD hr.units), fun d e Q h H S u v Q' sh hd he k => ?_⟩
  unfold gEq at h
  split at h
  · cases hd.b
    cases he.b
    exact .inl ⟨rfl, by rw [dec_bl']; simpa using k _ _ H S h (.refl sh) .b⟩
  · cases hd.i
    cases he.i
    exact .inl ⟨rfl, by simpa using k _ _ H S h (.refl sh) .b⟩
  · cases hd.s
    cases he.s
    exact .inl ⟨rfl, by simpa using k _ _ H S h (.refl sh) .b⟩
  · obtain ⟨⟨n1, n2⟩, h⟩ := h
    refine .inr ⟨_, _, nb_dp 20 _ u n1 (hd.full sh), nb_dp 20 _ v n2 (he.full sh), nb_shaped n1, nb_shaped n2, ?_⟩
    rw [eqv_deq n1 n2]
    simpa using k _ _ H S h (.refl sh) .b
def gCmp (p : Int → Int → Bool) : D → D → (D → Prop) → Prop
  | .int i, .int j, Q => Q (.bl (p i j))
  | _, _, _ => False
theorem dCmp {f : Value → Value → Sem Value} {g : Int → Int → Bool} (ho : OpR X f (rI0 fun i j => .bl (g i j))) : OpD X f (gCmp g) := by
  refine ⟨_, ho, fun d e Q h H S u v Q' sh hd he k => ?_⟩
  unfold gCmp at h
  split at h
  · exact ⟨_, _, hd.i, he.i, k _ _ H S h (.refl sh) .b⟩
  · exact h.elim
theorem dLt : OpD X (compareOp .Lt) (gCmp fun i j => decide (i < j)) := dCmp op_lt
theorem dLe : OpD X (compareOp .LtE) (gCmp fun i j => decide (i ≤ j)) := dCmp op_le
theorem dGt : OpD X (compareOp .Gt) (gCmp fun i j => decide (j < i)) := dCmp op_gt
theorem dGe : OpD X (compareOp .GtE) (gCmp fun i j => decide (j ≤ i)) := dCmp op_ge
/-- one sign in a text -/
def gInS (neg : Bool) : D → D → (D → Prop) → Prop
  | .str s, .str t, Q => match s.cps.toList with
    | [c] => Q (.bl (neg ^^ decide (c ∈ t.cps.toList)))
    | _ => False
  | _, _, _ => False
omit [KC] in
theorem str_one {s : Str} {c : Nat} (h : s.cps.toList = [c]) : s = ⟨#[c]⟩ := by
  cases s with
  | mk cps =>
    congr 1
    exact Array.ext' (by simpa using h)
theorem dInS : OpD X (compareOp .In) (gInS false) := by
  refine ⟨_, op_in_sign, fun d e Q h H S u v Q' sh hd he k => ?_⟩
  unfold gInS at h
  split at h
  · split at h
    · rename_i c hc
      cases hd.s
      cases he.s
      exact ⟨c, _, by rw [str_one hc], rfl, by simpa using k _ _ H S h (.refl sh) .b⟩
    · exact h.elim
  · exact h.elim
theorem dNotInS : OpD X (compareOp .NotIn) (gInS true) := by
  refine ⟨_, op_notIn_sign, fun d e Q h H S u v Q' sh hd he k => ?_⟩
  unfold gInS at h
  split at h
  · split at h
    · rename_i c hc
      cases hd.s
      cases he.s
      exact ⟨c, _, by rw [str_one hc], rfl, by simpa using k _ _ H S h (.refl sh) .b⟩
    · exact h.elim
  · exact h.elim
/-- is None -/
def isN : D → Bool
  | .non => true
  | _ => false
theorem isN_sound {H S : Hp} {d : D} {v : V} (h : BDat H S d v) : decide (v = V.non) = isN d := by
  cases d <;> simp only [BDat, Dat] at h
  · subst h; simp [isN]
  · subst h; simp [isN]
  · subst h; simp [isN]
  · subst h; simp [isN]
  · obtain ⟨a, _, rfl, _⟩ := h; simp [isN]
  · obtain ⟨a, _, rfl, _⟩ := h; simp [isN]
  · obtain ⟨a, _, rfl, _⟩ := h; simp [isN]
  · subst h; simp [isN]
  · obtain ⟨a, rfl, _⟩ := h; simp [isN]
  · obtain ⟨a, _, _, rfl, _⟩ := h; simp [isN]
  · obtain ⟨a, _, _, rfl, _⟩ := h; simp [isN]
def gIsN (neg : Bool) : D → D → (D → Prop) → Prop := fun d e Q => isN e = true ∧ Q (.bl (neg ^^ isN d))
theorem isN_v {H S : Hp} {d : D} {v : V} (h : BDat H S d v) (n : isN d = true) : v = .non := by
  have := isN_sound h
  rw [n] at this
  simpa using this
theorem dIsN : OpD X (compareOp .Is) (gIsN false) := by
  refine ⟨_, op_isN, fun d e Q h H S u v Q' sh hd he k => ?_⟩
  refine ⟨isN_v he h.1, ?_⟩
  rw [isN_sound hd]
  simpa using k _ _ H S h.2 (.refl sh) .b
theorem dIsNotN : OpD X (compareOp .IsNot) (gIsN true) := by
  refine ⟨_, op_notN, fun d e Q h H S u v Q' sh hd he k => ?_⟩
  refine ⟨isN_v he h.1, ?_⟩
  rw [isN_sound hd]
  simpa using k _ _ H S h.2 (.refl sh) .b
def gIsB : D → D → (D → Prop) → Prop
  | .bl i, .bl j, Q => Q (.bl (decide (i = j)))
  | _, _, _ => False
theorem dIsB : OpD X (compareOp .Is) gIsB := by
  refine ⟨_, op_isBl, fun d e Q h H S u v Q' sh hd he k => ?_⟩
  unfold gIsB at h
  split at h
  · exact ⟨_, _, hd.b, he.b, k _ _ H S h (.refl sh) .b⟩
  · exact h.elim

/-! ### subscripts -/
def gIdx : D → D → (D → Prop) → Prop
  | .lst xs, .int i, Q => ∃ d, atI xs i = some d ∧ Q d
  | .tup xs, .int i, Q => ∃ d, atI xs i = some d ∧ Q d
  | .scr ns, .int i, Q => ∃ n, atI ns i = some n ∧ Q (.int n)
  | .str z, .int i, Q => z.length ≤ sizeLine ∧ ∃ c, atI z.cps.toList i = some c ∧ Q (.str ⟨#[c]⟩)
  | _, _, _ => False
theorem atI_dats {S : Hp} {xs : List D} {vs : List V} {i : Int} {d : D} (q : Dats S xs vs) (h : atI xs i = some d) : ∃ v, atI vs i = some v ∧ Dat S d v := by
  unfold atI at h ⊢
  rw [q.len]
  cases e : ixN xs.length i with
  | none => rw [e] at h; cases h
  | some j =>
    rw [e] at h
    exact q.get h
omit [KC] in
theorem ex_atI_map {α β : Type} {f : α → β} {xs : List α} {i : Int} {Q : β → Prop} : (∃ d, atI (xs.map f) i = some d ∧ Q d) ↔ ∃ a, atI xs i = some a ∧ Q (f a) := by
  rw [show atI (xs.map f) i = (atI xs i).map f from by
    unfold atI
    rw [List.length_map]
    cases ixN xs.length i with
    | none => rfl
    | some j => simp]
  constructor
  · rintro ⟨d, h, q⟩
    cases e : atI xs i with
    | none => rw [e] at h; cases h
    | some a =>
      rw [e] at h
      cases h
      exact ⟨a, rfl, q⟩
  · rintro ⟨a, h, q⟩
    exact ⟨f a, by rw [h]; rfl, q⟩
omit [KC] in
theorem atI0 {α : Type} {x : α} {r : List α} : atI (x :: r) 0 = some x := atI_nat (j := 0) rfl
omit [KC] in
theorem atI1 {α : Type} {x y : α} {r : List α} : atI (x :: y :: r) 1 = some y := atI_nat (j := 1) rfl
omit [KC] in
theorem atI2 {α : Type} {x y z : α} {r : List α} : atI (x :: y :: z :: r) 2 = some z := atI_nat (j := 2) rfl
omit [KC] in
theorem atI_map {α β : Type} {f : α → β} {xs : List α} {i : Int} : atI (xs.map f) i = (atI xs i).map f := by
  unfold atI
  rw [List.length_map]
  cases ixN xs.length i with
  | none => rfl
  | some j => simp
theorem ed_ix (ha : BD X E a wa) (hb : BD X E b wb) (hs : PlainIx b := by exact fun _ _ => rfl) (hK : X.K = KC.K := by rfl) : ED X E (.Subscript a b pos) (wOp gIdx wa wb) := by
  obtain ⟨ta, pa, sa⟩ := ha.ex
  obtain ⟨tb, pb, sb⟩ := hb.ex
  refine ⟨_, pe_ix ix_seq pa pb hs, fun x ρ Q hw F σ H S Q' rp ex k => ?_⟩
  refine sa x ρ _ hw F σ H S _ rp ex fun d u H1 S1 q1 g1 h1 => ?_
  refine sb x ρ _ q1 F σ H1 S1 _ (rp.grow g1) (ex.grow g1) fun e v H2 S2 q2 g2 h2 => ?_
  have g12 := g1.trans g2
  have h1 := h1.grow g2
  unfold gIdx at q2
  split at q2
  · obtain ⟨d, hd, q⟩ := q2
    obtain ⟨p, vs, rfl, r, z⟩ := h1
    obtain ⟨y, hy, hz⟩ := atI_dats z hd
    exact .inl ⟨p, vs, _, y, rfl, h2.i, .of r, hy, k _ _ H2 S2 q g12 hz⟩
  · obtain ⟨d, hd, q⟩ := q2
    simp only [BDat, Dat] at h1
    obtain ⟨p, vs, rfl, r, z⟩ := h1
    obtain ⟨y, hy, hz⟩ := atI_dats z hd
    exact .inr (.inl ⟨p, vs, _, y, rfl, h2.i, .of (g12.sh _ _ r), hy, k _ _ H2 S2 q g12 hz⟩)
  · obtain ⟨d, hd, q⟩ := q2
    simp only [BDat, Dat] at h1
    obtain ⟨p, rfl, r⟩ := h1
    exact .inl ⟨p, _, _, .int d, rfl, h2.i, by rw [hK]; exact g12.sh.seq r, by rw [atI_map, hd]; rfl, k _ _ H2 S2 q g12 .i⟩
  · obtain ⟨hz, c, hc, q⟩ := q2
    exact .inr (.inr ⟨_, _, c, h1.s, h2.i, hz, hc, k _ _ H2 S2 q g12 .s⟩)
  · exact q2.elim

/-! ### slices -/
structure OD (X : Cx) (E : XK) (e : Option Expr) (w : XS → Ev → (Option Int → Prop) → Prop) : Prop where
  ex : ∃ t, PO X e t ∧ ∀ (x : XS) (ρ : Ev) (Q : Option Int → Prop), w x ρ Q → ∀ (F : Fr) (σ : L2.St) (H S : Hp) (Q' : Option Int → Hp → Prop), Rep F ρ σ H S → ExOk X.mg E x H S →
    (∀ o H' S', Q o → Grow H S H' S' → Q' o H') → t σ H Q'
abbrev WO := XS → Ev → (Option Int → Prop) → Prop
def woNone : WO := fun _ _ Q => Q none
def woSome (wa : WE) : WO := fun x ρ Q => wa x ρ fun d => match d with
  | .int i => Q (some i)
  | _ => False
theorem od_none : OD X E none woNone := ⟨_, po_none, fun x ρ Q hw F σ H S Q' rp ex k => k none H S hw (.refl rp.sh)⟩
theorem od_some (ha : BD X E a wa) : OD X E (some a) (woSome wa) := by
  obtain ⟨t, p, s⟩ := ha.ex
  refine ⟨_, po_some p, fun x ρ Q hw F σ H S Q' rp ex k => ?_⟩
  refine s x ρ _ hw F σ H S _ rp ex fun d u H1 S1 q1 g1 h1 => ?_
  cases d with
  | int i => exact ⟨i, h1.i, k _ H1 S1 q1 g1⟩
  | _ => exact q1.elim
def cut {α : Type} (xs : List α) (lo hi : Option Int) : List α := (xs.drop (HT.sIx xs.length 0 lo)).take (HT.sIx xs.length xs.length hi - HT.sIx xs.length 0 lo)
omit [KC] in
theorem cut_map {α β : Type} (f : α → β) (xs : List α) (lo hi : Option Int) : cut (xs.map f) lo hi = (cut xs lo hi).map f := by
  unfold cut
  rw [List.length_map, List.map_take, List.map_drop]
theorem cut_dats {S : Hp} {xs : List D} {vs : List V} (q : Dats S xs vs) (lo hi : Option Int) : Dats S (cut xs lo hi) (cutV vs lo hi) := by
  unfold cut cutV
  rw [q.len]
  exact (q.drop _).take _
variable {lo hi : Option Expr} {wo wh : XS → Ev → (Option Int → Prop) → Prop} {p2 : Pos}
def gSl : D → Option Int → Option Int → (D → Prop) → Prop
  | .lst xs, l, h, Q => Q (.lst (cut xs l h))
  | .scr ns, l, h, Q => Q (.lst ((cut ns l h).map D.int))
  | .str z, l, h, Q => z.length ≤ sizeLine ∧ Q (.str (cutS z l h))
  | .tup xs, l, h, Q => ¬ (HT.sIx xs.length 0 l = 0 ∧ HT.sIx xs.length xs.length h = xs.length) ∧ Q (.tup (cut xs l h))
  | _, _, _, _ => False
theorem lay_tup {H S : Hp} {xs : List D} {vs : List V} {p : Addr} (sh : Same S H) (hp : H p = none) (q : Dats S xs vs) :
    Grow H S (upd H p (.tup vs)) (upd S p (.tup vs)) ∧ Dat (upd S p (.tup vs)) (.tup xs) (.ref p) := by
  have h0 := sh.free hp
  refine ⟨((Grow.refl sh).lay hp).share hp h0 upd_same, ?_⟩
  unfold Dat
  exact ⟨p, vs, rfl, upd_same, Dats.mono (same_upd h0) _ _ q⟩
def wSl (wa : WE) (wo wh : WO) : WE := fun x ρ Q => wa x ρ fun d => wo x ρ fun l => wh x ρ fun h => gSl d l h Q
theorem ed_sl (ha : BD X E a wa) (hl : OD X E lo wo) (hh : OD X E hi wh) (hK : X.K = KC.K := by rfl) : ED X E (.Subscript a (.Slice lo hi none p2) pos) (wSl wa wo wh) := by
  obtain ⟨ta, pa, sa⟩ := ha.ex
  obtain ⟨tl, pl, sl⟩ := hl.ex
  obtain ⟨th, ph, sh⟩ := hh.ex
  refine ⟨_, pe_slice (sl_list.or (sl_str.or sl_tup)) pa pl ph, fun x ρ Q hw F σ H S Q' rp ex k => ?_⟩
  refine sa x ρ _ hw F σ H S _ rp ex fun d u H1 S1 q1 g1 h1 => ?_
  refine sl x ρ _ q1 F σ H1 S1 _ (rp.grow g1) (ex.grow g1) fun l H2 S2 q2 g2 => ?_
  have g12 := g1.trans g2
  refine sh x ρ _ q2 F σ H2 S2 _ (rp.grow g12) (ex.grow g12) fun h H3 S3 q3 g3 => ?_
  have g13 := g12.trans g3
  have h1 := (h1.grow g2).grow g3
  unfold gSl at q3
  split at q3
  · obtain ⟨p, vs, rfl, r, z⟩ := h1
    refine .inl ⟨p, vs, rfl, .of r, fun p hp => ?_⟩
    obtain ⟨g, y⟩ := lay_lst g13.sh hp (cut_dats z l h)
    exact k _ _ _ _ q3 (g13.trans g) y
  · simp only [BDat, Dat] at h1
    obtain ⟨p, rfl, r⟩ := h1
    refine .inl ⟨p, _, rfl, by rw [hK]; exact g13.sh.seq r, fun p hp => ?_⟩
    obtain ⟨g, y⟩ := lay_lst g13.sh hp (cut_dats (Dats.ints _) l h)
    rw [cut_map] at y
    exact k _ _ _ _ q3 (g13.trans g) y
  · exact .inr (.inl ⟨_, h1.s, q3.1, k _ _ H3 S3 q3.2 g13 .s⟩)
  · simp only [BDat, Dat] at h1
    obtain ⟨p, vs, rfl, r, z⟩ := h1
    refine .inr (.inr ⟨p, vs, rfl, .of (g13.sh _ _ r), by rw [z.len]; exact q3.1, fun p hp => ?_⟩)
    obtain ⟨g, y⟩ := lay_tup g13.sh hp (cut_dats z l h)
    exact k _ _ _ _ q3.2 (g13.trans g) y
  · exact q3.elim
def gSlF : D → Option Int → Option Int → (List D → Prop) → Prop
  | .lst xs, l, h, Q => Q (cut xs l h)
  | .scr ns, l, h, Q => Q ((cut ns l h).map D.int)
  | _, _, _, _ => False
def wSlF (wa : WE) (wo wh : WO) : WL := fun x ρ Q => wa x ρ fun d => wo x ρ fun l => wh x ρ fun h => gSlF d l h Q
theorem df_sl (ha : BD X E a wa) (hl : OD X E lo wo) (hh : OD X E hi wh) (hK : X.K = KC.K := by rfl) : DF X E (.Subscript a (.Slice lo hi none p2) pos) (wSlF wa wo wh) := by
  obtain ⟨ta, pa, sa⟩ := ha.ex
  obtain ⟨tl, pl, sl⟩ := hl.ex
  obtain ⟨th, ph, sh⟩ := hh.ex
  refine ⟨_, pe_slice sl_list pa pl ph, fun x ρ Q hw F σ H S Q' rp ex k => ?_⟩
  refine sa x ρ _ hw F σ H S _ rp ex fun d u H1 S1 q1 g1 h1 => ?_
  refine sl x ρ _ q1 F σ H1 S1 _ (rp.grow g1) (ex.grow g1) fun l H2 S2 q2 g2 => ?_
  have g12 := g1.trans g2
  refine sh x ρ _ q2 F σ H2 S2 _ (rp.grow g12) (ex.grow g12) fun h H3 S3 q3 g3 => ?_
  have g13 := g12.trans g3
  have h1 := (h1.grow g2).grow g3
  unfold gSlF at q3
  split at q3
  · obtain ⟨p, vs, rfl, r, z⟩ := h1
    exact ⟨p, vs, rfl, .of r, fun p hp => k _ p _ _ S3 q3 (g13.lay hp) (g13.freeH hp) (g13.freeS hp) upd_same (cut_dats z l h)⟩
  · simp only [BDat, Dat] at h1
    obtain ⟨p, rfl, r⟩ := h1
    refine ⟨p, _, rfl, by rw [hK]; exact g13.sh.seq r, fun p hp => ?_⟩
    refine k _ p _ _ S3 q3 (g13.lay hp) (g13.freeH hp) (g13.freeS hp) upd_same ?_
    rw [← cut_map]
    exact cut_dats (Dats.ints _) l h
  · exact q3.elim
end
end NL

namespace NL
open PySem PySem.Spec L2
open PyProof.Rows hiding St
variable [KC]

/-! ### built-in functions by data -/
section
variable {X : Cx}
structure CalD (X : Cx) (f : Value) (g : List D → (D → Prop) → Prop) : Prop where
  ex : ∃ r : List V → Hp → VK → Prop, CallR X f r ∧ ∀ (ds : List D) (Q : D → Prop), g ds Q → ∀ (H S : Hp) (vs : List V) (Q' : VK), Same S H → BDats H S ds vs →
    (∀ z y H' S', Q z → Grow H S H' S' → Dat S' z y → Q' y H') → r vs H Q'
structure CalF (X : Cx) (f : Value) (g : List D → (List D → Prop) → Prop) : Prop where
  ex : ∃ r : List V → Hp → VK → Prop, CallR X f r ∧ ∀ (ds : List D) (Q : List D → Prop), g ds Q → ∀ (H S : Hp) (vs : List V) (Q' : VK), Same S H → BDats H S ds vs →
    (∀ z ws p, Q z → H p = none → Dats S z ws → Q' (.ref p) (upd H p (.lst ws))) → r vs H Q'
def wB (g : List D → (D → Prop) → Prop) (wl : WL) : WE := fun x ρ Q => wl x ρ fun ds => g ds Q
def wBF (g : List D → (List D → Prop) → Prop) (wl : WL) : WL := fun x ρ Q => wl x ρ fun ds => g ds Q
variable {E : XK} {e a b : Expr} {es : List Expr} {pos p : Pos} {x m : Str} {w wa wb : WE} {wl : WL}
theorem ed_callB {id : String} {g : List D → (D → Prop) → Prop} (hc : CalD X (.builtin id) g) (hg : Gl X x) (hm : X.mg x = none) (hv : bootBuiltins x = some (.builtin id)) (ha : AB X E (e :: es) wl) (hn : x ≠ "__name__" := by decide)
    (hdb : (x == ("__debug__" : Str)) = false := by decide) (he : starEach (e :: es) X.env = (false, eval e X.env) :: starEach es X.env := by rfl) (hpl : (backTo pos (starEach es X.env)).any (·.1) = false := by rfl) :
    ED X E (.Call (.Name x p) (e :: es) [] pos) (wB g wl) := by
  obtain ⟨r, o, so⟩ := hc.ex
  obtain ⟨t, pt, s⟩ := ha.ex
  refine ⟨_, pe_callB o hg hm hv pt hn hdb he hpl, fun x ρ Q hw F σ H S Q' rp ex k => ?_⟩
  refine s x ρ _ hw F σ H S _ rp ex fun ds vs H1 S1 q1 g1 h1 => ?_
  exact so ds Q q1 H1 S1 vs Q' g1.sh h1 fun z y H2 S2 q2 g2 h2 => k z y H2 S2 q2 (g1.trans g2) h2
theorem ed_callT {T : String} {g : List D → (D → Prop) → Prop} (hc : CalD X (.type T) g) (hg : Gl X x) (hm : X.mg x = none) (hv : bootBuiltins x = some (.type T)) (ha : AB X E (e :: es) wl) (hn : x ≠ "__name__" := by decide)
    (hdb : (x == ("__debug__" : Str)) = false := by decide) (he : starEach (e :: es) X.env = (false, eval e X.env) :: starEach es X.env := by rfl) (hpl : (backTo pos (starEach es X.env)).any (·.1) = false := by rfl) :
    ED X E (.Call (.Name x p) (e :: es) [] pos) (wB g wl) := by
  obtain ⟨r, o, so⟩ := hc.ex
  obtain ⟨t, pt, s⟩ := ha.ex
  refine ⟨_, pe_callTy o hg hm hv pt hn hdb he hpl, fun x ρ Q hw F σ H S Q' rp ex k => ?_⟩
  refine s x ρ _ hw F σ H S _ rp ex fun ds vs H1 S1 q1 g1 h1 => ?_
  exact so ds Q q1 H1 S1 vs Q' g1.sh h1 fun z y H2 S2 q2 g2 h2 => k z y H2 S2 q2 (g1.trans g2) h2
theorem df_callB {id : String} {g : List D → (List D → Prop) → Prop} (hc : CalF X (.builtin id) g) (hg : Gl X x) (hm : X.mg x = none) (hv : bootBuiltins x = some (.builtin id)) (ha : AB X E (e :: es) wl) (hn : x ≠ "__name__" := by decide)
    (hdb : (x == ("__debug__" : Str)) = false := by decide) (he : starEach (e :: es) X.env = (false, eval e X.env) :: starEach es X.env := by rfl) (hpl : (backTo pos (starEach es X.env)).any (·.1) = false := by rfl) :
    DF X E (.Call (.Name x p) (e :: es) [] pos) (wBF g wl) := by
  obtain ⟨r, o, so⟩ := hc.ex
  obtain ⟨t, pt, s⟩ := ha.ex
  refine ⟨_, pe_callB o hg hm hv pt hn hdb he hpl, fun x ρ Q hw F σ H S Q' rp ex k => ?_⟩
  refine s x ρ _ hw F σ H S _ rp ex fun ds vs H1 S1 q1 g1 h1 => ?_
  exact so ds Q q1 H1 S1 vs Q' g1.sh h1 fun z ws p q2 hp h2 => k z p ws _ S1 q2 (g1.lay hp) (g1.freeH hp) (g1.freeS hp) upd_same h2
theorem df_callT {T : String} {g : List D → (List D → Prop) → Prop} (hc : CalF X (.type T) g) (hg : Gl X x) (hm : X.mg x = none) (hv : bootBuiltins x = some (.type T)) (ha : AB X E (e :: es) wl) (hn : x ≠ "__name__" := by decide)
    (hdb : (x == ("__debug__" : Str)) = false := by decide) (he : starEach (e :: es) X.env = (false, eval e X.env) :: starEach es X.env := by rfl) (hpl : (backTo pos (starEach es X.env)).any (·.1) = false := by rfl) :
    DF X E (.Call (.Name x p) (e :: es) [] pos) (wBF g wl) := by
  obtain ⟨r, o, so⟩ := hc.ex
  obtain ⟨t, pt, s⟩ := ha.ex
  refine ⟨_, pe_callTy o hg hm hv pt hn hdb he hpl, fun x ρ Q hw F σ H S Q' rp ex k => ?_⟩
  refine s x ρ _ hw F σ H S _ rp ex fun ds vs H1 S1 q1 g1 h1 => ?_
  exact so ds Q q1 H1 S1 vs Q' g1.sh h1 fun z ws p q2 hp h2 => k z p ws _ S1 q2 (g1.lay hp) (g1.freeH hp) (g1.freeS hp) upd_same h2

def gLen : List D → (D → Prop) → Prop
  | [.str s], Q => s.length ≤ sizeLine ∧ Q (.int s.length)
  | [.lst xs], Q => Q (.int xs.length)
  | [.tup xs], Q => Q (.int xs.length)
  | [.scr xs], Q => Q (.int xs.length)
  | [.dct ks xs], Q => Q (.int xs.length)
  | _, _ => False
theorem BDats.one {H S : Hp} {d : D} {vs : List V} (h : BDats H S [d] vs) : ∃ v, vs = [v] ∧ BDat H S d v := by
  obtain ⟨v, r, e, h1, h2⟩ := h
  unfold BDats at h2
  subst h2
  exact ⟨v, e, h1⟩
theorem BDats.two {H S : Hp} {d d' : D} {vs : List V} (h : BDats H S [d, d'] vs) : ∃ v v', vs = [v, v'] ∧ BDat H S d v ∧ BDat H S d' v' := by
  obtain ⟨v, r, e, h1, v', r', e', h2, h3⟩ := h
  unfold BDats at h3
  subst h3
  subst e'
  exact ⟨v, v', e, h1, h2⟩
theorem cLen (hK : X.K = KC.K := by rfl) : CalD X (.builtin "len") gLen := by
  refine ⟨_, call_len.or call_lenD, fun ds Q h H S vs Q' sh hd k => ?_⟩
  unfold gLen at h
  split at h
  · obtain ⟨v, rfl, hz⟩ := hd.one
    cases hz.s
    exact .inl ⟨_, _, rfl, ⟨h.1, rfl⟩, k _ _ H S h.2 (.refl sh) .i⟩
  · obtain ⟨v, rfl, hz⟩ := hd.one
    obtain ⟨a, ws, rfl, r, z⟩ := hz
    exact .inl ⟨_, _, rfl, .inl ⟨ws, .of r, rfl⟩, by rw [z.len]; exact k _ _ H S h (.refl sh) .i⟩
  · obtain ⟨v, rfl, hz⟩ := hd.one
    simp only [BDat, Dat] at hz
    obtain ⟨a, ws, rfl, r, z⟩ := hz
    exact .inl ⟨_, _, rfl, .inr ⟨ws, .of (sh _ _ r), rfl⟩, by rw [z.len]; exact k _ _ H S h (.refl sh) .i⟩
  · obtain ⟨v, rfl, hz⟩ := hd.one
    simp only [BDat, Dat] at hz
    obtain ⟨a, rfl, r⟩ := hz
    exact .inl ⟨_, _, rfl, .inl ⟨_, (by rw [hK]; exact sh.seq r), rfl⟩, by rw [List.length_map]; exact k _ _ H S h (.refl sh) .i⟩
  · obtain ⟨v, rfl, hz⟩ := hd.one
    obtain ⟨a, kvs, rfl, r, z1, z2⟩ := hz
    refine .inr ⟨a, kvs, rfl, r, ?_⟩
    have := z2.len
    rw [List.length_map] at this
    rw [this]
    exact k _ _ H S h (.refl sh) .i
  · exact h.elim
def gInt1 (f : Int → Int) : List D → (D → Prop) → Prop
  | [.int i], Q => Q (.int (f i))
  | _, _ => False
theorem cAbs : CalD X (.builtin "abs") (gInt1 fun i => if i < 0 then -i else i) := by
  refine ⟨_, call_abs, fun ds Q h H S vs Q' sh hd k => ?_⟩
  unfold gInt1 at h
  split at h
  · obtain ⟨v, rfl, hz⟩ := hd.one
    cases hz.i
    exact ⟨_, rfl, k _ _ H S h (.refl sh) .i⟩
  · exact h.elim
def gInt2 (f : Int → Int → Int) : List D → (D → Prop) → Prop
  | [.int i, .int j], Q => Q (.int (f i j))
  | _, _ => False
theorem cMax (hc : X.calm = true) : CalD X (.builtin "max") (gInt2 fun i j => if j > i then j else i) := by
  refine ⟨_, call_max2 hc, fun ds Q h H S vs Q' sh hd k => ?_⟩
  unfold gInt2 at h
  split at h
  · obtain ⟨v, v', rfl, h1, h2⟩ := hd.two
    cases h1.i
    cases h2.i
    exact ⟨_, _, rfl, k _ _ H S h (.refl sh) .i⟩
  · exact h.elim
theorem cMin (hc : X.calm = true) : CalD X (.builtin "min") (gInt2 fun i j => if j < i then j else i) := by
  refine ⟨_, call_min2 hc, fun ds Q h H S vs Q' sh hd k => ?_⟩
  unfold gInt2 at h
  split at h
  · obtain ⟨v, v', rfl, h1, h2⟩ := hd.two
    cases h1.i
    cases h2.i
    exact ⟨_, _, rfl, k _ _ H S h (.refl sh) .i⟩
  · exact h.elim
def gToInt : List D → (D → Prop) → Prop
  | [.int i], Q => Q (.int i)
  | [.bl b], Q => Q (.int (if b then 1 else 0))
  | _, _ => False
theorem cInt : CalD X (.type "int") gToInt := by
  refine ⟨_, call_int1, fun ds Q h H S vs Q' sh hd k => ?_⟩
  unfold gToInt at h
  split at h
  · obtain ⟨v, rfl, hz⟩ := hd.one
    cases hz.i
    exact .inl ⟨_, rfl, k _ _ H S h (.refl sh) .i⟩
  · obtain ⟨v, rfl, hz⟩ := hd.one
    cases hz.b
    exact .inr ⟨_, rfl, k _ _ H S h (.refl sh) .i⟩
  · exact h.elim
def gListF : List D → (List D → Prop) → Prop
  | [.lst xs], Q => Q xs
  | [.tup xs], Q => Q xs
  | [.scr ns], Q => Q (ns.map D.int)
  | _, _ => False
theorem cListF (hK : X.K = KC.K := by rfl) : CalF X (.type "list") gListF := by
  refine ⟨_, call_list_of, fun ds Q h H S vs Q' sh hd k => ?_⟩
  unfold gListF at h
  split at h
  · obtain ⟨v, rfl, hz⟩ := hd.one
    obtain ⟨a, ws, rfl, r, z⟩ := hz
    exact ⟨a, ws, rfl, .inl (.of r), fun l hl => k _ _ _ h hl z⟩
  · obtain ⟨v, rfl, hz⟩ := hd.one
    simp only [BDat, Dat] at hz
    obtain ⟨a, ws, rfl, r, z⟩ := hz
    exact ⟨a, ws, rfl, .inr (.of (sh _ _ r)), fun l hl => k _ _ _ h hl z⟩
  · obtain ⟨v, rfl, hz⟩ := hd.one
    simp only [BDat, Dat] at hz
    obtain ⟨a, rfl, r⟩ := hz
    exact ⟨a, _, rfl, .inl (by rw [hK]; exact sh.seq r), fun l hl => k _ _ _ h hl (Dats.ints _)⟩
  · exact h.elim

/-! ### isinstance of a built-in type -/
def tyName : D → Option String
  | .non => some "NoneType"
  | .bl _ => some "bool"
  | .int _ => some "int"
  | .str _ => some "str"
  | .lst _ => some "list"
  | .tup _ => some "tuple"
  | .dct _ _ => some "dict"
  | _ => none
theorem tyName_sound {H S : Hp} {d : D} {v : V} {K : PySem.W.Frag} {n : String} (sh : Same S H) (h : BDat H S d v) (e : tyName d = some n) : TyX K H v (.type n) := by
  cases d with
  | non => cases e; cases h.n; exact .base .non
  | bl b => cases e; cases h.b; exact .base (.bl b)
  | int i => cases e; cases h.i; exact .base (.int i)
  | str s => cases e; cases h.s; exact .base (.str s)
  | lst xs => cases e; obtain ⟨a, vs, rfl, r, _⟩ := h; exact .base (.lst r)
  | scr ns => cases e
  | tup xs =>
    cases e
    simp only [BDat, Dat] at h
    obtain ⟨a, vs, rfl, r, _⟩ := h
    exact .base (.tup (sh _ _ r))
  | dct ks xs => cases e; obtain ⟨a, vs, rfl, r, _⟩ := h; exact .base (.dK r)
  | ref a => cases e
  | obj _ _ _ => cases e
  | dkz _ _ => cases e
def gIsT (T : String) (d : D) (Q : D → Prop) : Prop := ∃ n, tyName d = some n ∧ ∃ b, kitB n T = some b ∧ Q (.bl b)
def wIsT (T : String) (wa : WE) : WE := fun x ρ Q => wa x ρ fun d => gIsT T d Q
theorem ed_isT {T : String} {y : Str} {p2 : Pos} (hg : Gl X "isinstance") (hm : X.mg "isinstance" = none) (hgT : Gl X y) (hmT : X.mg y = none) (hvT : bootBuiltins y = some (.type T)) (ha : BD X E a wa)
    (hn : y ≠ "__name__" := by decide) (hd : (y == ("__debug__" : Str)) = false := by decide)
    (he : starEach (a :: [.Name y p2]) X.env = (false, eval a X.env) :: starEach [.Name y p2] X.env := by rfl) (he2 : starEach [.Name y p2] X.env = (false, eval (.Name y p2) X.env) :: starEach [] X.env := by rfl) (hpl : (backTo pos (starEach [.Name y p2] X.env)).any (·.1) = false := by rfl) :
    ED X E (.Call (.Name "isinstance" p) [a, .Name y p2] [] pos) (wIsT T wa) := by
  obtain ⟨t, pt, s⟩ := ha.ex
  have pT : PE X (.Name y p2) (tC (.ty T)) := pe_bltn hgT hmT hvT rfl hn hd
  refine ⟨_, pe_callB call_isi hg hm (by decide +kernel) (pa_cons pt (pa_cons pT pa_nil he2) he) (by decide) (by decide) he hpl, fun x ρ Q hw F σ H S Q' rp ex k => ?_⟩
  refine s x ρ _ hw F σ H S _ rp ex fun d u H1 S1 q1 g1 h1 => ?_
  obtain ⟨n, e1, b, e2, q⟩ := q1
  exact ⟨u, .ty T, .type n, .type T, b, rfl, .ty T, tyName_sound g1.sh h1 e1, kit_ty e2, k _ _ H1 S1 q g1 .b⟩

/-! ### a def's promise by data -/
inductive Rt where
  | val (d : D) | new (c : Cn) | newT (d : D)
/-- a new tuple; what it refers to is new, each but once -/
def FreshT (H S' : Hp) (v : V) : Prop := ∃ p vs, v = .ref p ∧ H p = none ∧ S' p = some (.tup vs) ∧ (∀ a, V.ref a ∈ vs → H a = none) ∧ ∀ (i j : Nat) (a : Addr), vs[i]? = some (V.ref a) → vs[j]? = some (V.ref a) → i = j
abbrev Spec := List D → XS → (Rt → Prop) → Prop
def RtP (H H' S' : Hp) : Rt → V → Prop
  | .val d, v => Dat S' d v
  | .new c, v => ∃ p o, v = .ref p ∧ H p = none ∧ S' p = none ∧ H' p = some o ∧ CnOk S' c o
  | .newT d, v => Dat S' d v ∧ FreshT H S' v
def spOf (mg : Str → Option Value) (sp : Spec) : Sp := fun vs H Q E => ∃ ds S x R, (Same S H ∧ Tbq S H) ∧ Dats S ds vs ∧ sp ds x R ∧
  (∀ r v H' S', R r → Grow H S H' S' → RtP H H' S' r v → Q v H') ∧ (∀ n C H' S', x n → mg n = some (.ref C) → Grow H S H' S' → E (.ref C) none H')
def Rt.d : Rt → D
  | .val d => d
  | .new c => c.d
  | .newT d => d
/-- a def is asked; what comes behind is not looked at -/
def Ask (sp : Spec) (ds : List D) (x : XS) (K : Rt → Prop) (_ : Tg K) : Prop := sp ds x K
def wCall (sp : Spec) (wl : WL) : WE := fun x ρ Q => wl x ρ fun ds => Ask sp ds x (fun r => Q r.d) ⟨⟩
theorem RtP.dat {H S H' S' : Hp} (g : Grow H S H' S') : ∀ {r : Rt} {v : V}, RtP H H' S' r v → ∃ S2, Grow H S H' S2 ∧ Dat S2 r.d v
  | .val d, v, h => ⟨S', g, h⟩
  | .newT d, v, h => ⟨S', g, h.1⟩
  | .new c, v, ⟨p, o, e, h0, h1, h2, h3⟩ => ⟨upd S' p o, g.share h0 h1 h2, by
      subst e
      exact CnOk.dat upd_same (h3.mono (same_upd h1))⟩
variable {k : Nat} {f : Addr} {fd : FuncData} {ps : List Str} {sp : Spec}
theorem ed_call (G : FnOk X.prog X.w X.K X.mg X.base (L2N.CX X.prog X.w) k f fd ps (spOf X.mg sp)) (hr : Room k X.A) (xk : XOk X E) (hg : Gl X x) (hm : X.mg x = some (.ref f)) (hk : PySem.W.keepIn X.K (.ref f) = true) (hb : Binds X.K fd ps [])
    (ha : AD X E (e :: es) wl) (hdb : (x == ("__debug__" : Str)) = false := by decide) (he : starEach (e :: es) X.env = (false, eval e X.env) :: starEach es X.env := by rfl) (hpl : (backTo pos (starEach es X.env)).any (·.1) = false := by rfl) :
    ED X E (.Call (.Name x p) (e :: es) [] pos) (wCall sp wl) := by
  obtain ⟨t, pt, s⟩ := ha.ex
  refine ⟨_, pe_call G hr hg hm hk hb .nil xk.pass pt hdb he hpl, fun x ρ Q hw F σ H S Q' rp ex k => ?_⟩
  refine s x ρ _ hw F σ H S _ rp ex fun ds vs H1 S1 q1 g1 h1 => ?_
  refine ⟨ds, S1, x, _, ⟨g1.sh, (rp.grow g1).fg.tb⟩, by rw [List.append_nil]; exact h1, q1, fun r v H2 S2 q2 g2 h2 => ?_, fun n C H2 S2 xn hC g2 => ex n C H2 S2 xn hC (g1.trans g2)⟩
  obtain ⟨S3, g3, h3⟩ := h2.dat g2
  exact k _ _ H2 S3 q2 (g1.trans g3) h3
theorem ed_call0 (G : FnOk X.prog X.w X.K X.mg X.base (L2N.CX X.prog X.w) k f fd ps (spOf X.mg sp)) (hr : Room k X.A) (xk : XOk X E) (hg : Gl X x) (hm : X.mg x = some (.ref f)) (hk : PySem.W.keepIn X.K (.ref f) = true) (hb : Binds X.K fd ps [])
    (hdb : (x == ("__debug__" : Str)) = false := by decide) : ED X E (.Call (.Name x p) [] [] pos) (wCall sp wNil) := by
  refine ⟨_, pe_call0 G hr hg hm hk hb .nil xk.pass hdb, fun x ρ Q hw F σ H S Q' rp ex k => ?_⟩
  refine ⟨[], S, x, _, ⟨rp.sh, rp.fg.tb⟩, .nil, hw, fun r v H2 S2 q2 g2 h2 => ?_, fun n C H2 S2 xn hC g2 => ex n C H2 S2 xn hC g2⟩
  obtain ⟨S3, g3, h3⟩ := h2.dat g2
  exact k _ _ H2 S3 q2 g3 h3
/-- a call whose result is a new list, nobody else's -/
def onNew (Q : List D → Prop) : Rt → Prop
  | .new (.lst xs) => Q xs
  | _ => False
def wCallF (sp : Spec) (wl : WL) : WL := fun x ρ Q => wl x ρ fun ds => Ask sp ds x (onNew Q) ⟨⟩
theorem df_call (G : FnOk X.prog X.w X.K X.mg X.base (L2N.CX X.prog X.w) k f fd ps (spOf X.mg sp)) (hr : Room k X.A) (xk : XOk X E) (hg : Gl X x) (hm : X.mg x = some (.ref f)) (hk : PySem.W.keepIn X.K (.ref f) = true) (hb : Binds X.K fd ps [])
    (ha : AD X E (e :: es) wl) (hdb : (x == ("__debug__" : Str)) = false := by decide) (he : starEach (e :: es) X.env = (false, eval e X.env) :: starEach es X.env := by rfl) (hpl : (backTo pos (starEach es X.env)).any (·.1) = false := by rfl) :
    DF X E (.Call (.Name x p) (e :: es) [] pos) (wCallF sp wl) := by
  obtain ⟨t, pt, s⟩ := ha.ex
  refine ⟨_, pe_call G hr hg hm hk hb .nil xk.pass pt hdb he hpl, fun x ρ Q hw F σ H S Q' rp ex k => ?_⟩
  refine s x ρ _ hw F σ H S _ rp ex fun ds vs H1 S1 q1 g1 h1 => ?_
  refine ⟨ds, S1, x, _, ⟨g1.sh, (rp.grow g1).fg.tb⟩, by rw [List.append_nil]; exact h1, q1, fun r v H2 S2 q2 g2 h2 => ?_, fun n C H2 S2 xn hC g2 => ex n C H2 S2 xn hC (g1.trans g2)⟩
  cases r with
  | val d => exact q2.elim
  | newT d => exact q2.elim
  | new c =>
    cases c with
    | dct _ _ => exact q2.elim
    | obj _ _ _ => exact q2.elim
    | lst xs =>
      obtain ⟨p, o, rfl, z0, z1, z2, ws, rfl, z3⟩ := h2
      exact k xs p ws H2 S2 q2 (g1.trans g2) (g1.freeH z0) z1 z2 z3
/-! a call with things that a slot owns: they are read, and none of them is in what comes back -/
mutual
def nl : D → Bool
  | .tup xs => nls xs
  | .lst _ => false
  | .dct _ _ => false
  | .dkz _ _ => false
  | .obj _ _ _ => false
  | .scr _ => false
  | _ => true
def nls : List D → Bool
  | [] => true
  | x :: xs => nl x && nls xs
end
def tops : List V → Addr → Bool
  | [], _ => false
  | .ref p :: r, a => (p == a) || tops r a
  | _ :: r, a => tops r a
open Classical in
noncomputable def plusS (H S : Hp) (vs : List V) : Hp := fun a => if S a = none ∧ tops vs a = true ∧ ∃ o, H a = some o ∧ (∀ xs, o ≠ .tup xs) ∧ (∀ ps, o ≠ .tbl ps) then H a else S a
open Classical in
noncomputable def minusS (H S S' : Hp) (vs : List V) : Hp := fun a => if S a = none ∧ tops vs a = true ∧ ∃ o, H a = some o ∧ (∀ xs, o ≠ .tup xs) ∧ (∀ ps, o ≠ .tbl ps) then none else S' a
theorem plus_same {H S : Hp} {vs : List V} : Same S (plusS H S vs) := fun a o h => by
  unfold plusS
  rw [if_neg (fun z => by rw [z.1] at h; cases h)]
  exact h
theorem plus_sh {H S : Hp} {vs : List V} (sh : Same S H) : Same (plusS H S vs) H := fun a o h => by
  unfold plusS at h
  split at h
  · exact h
  · exact sh a o h
theorem plus_in {H S : Hp} {vs : List V} {p : Addr} {o : HO} (sh : Same S H) (h : H p = some o) (ht : tops vs p = true) (ho : ∀ xs, o ≠ .tup xs) (hb : ∀ ps, o ≠ .tbl ps) : plusS H S vs p = some o := by
  unfold plusS
  by_cases c : S p = none
  · rw [if_pos ⟨c, ht, o, h, ho, hb⟩]
    exact h
  · rw [if_neg (fun z => c z.1)]
    cases q : S p with
    | none => exact absurd q c
    | some u =>
      have := sh p u q
      rw [h] at this
      exact this.symm
theorem plus_dats {H S : Hp} (sh : Same S H) : ∀ {ds : List D} {vs ws : List V}, BDats H S ds vs → (∀ a, tops vs a = true → tops ws a = true) → Dats (plusS H S ws) ds vs
  | [], vs, ws, h, _ => by unfold BDats at h; subst h; exact .nil
  | d :: ds, vs, ws, ⟨v, r, e, h, q⟩, ht => by
    subst e
    refine .cons ?_ (plus_dats sh q fun a ha => ht a ?_)
    · cases d with
      | lst xs =>
        obtain ⟨a, us, rfl, ra, z⟩ := h
        exact .lstOf (plus_in sh ra (ht a (by simp [tops])) (fun _ z => by cases z) (fun _ z => by cases z)) (Dats.mono plus_same _ _ z)
      | dct ks xs =>
        obtain ⟨a, us, rfl, ra, z1, z2⟩ := h
        unfold Dat
        exact ⟨a, us, rfl, plus_in sh ra (ht a (by simp [tops])) (fun _ z => by cases z) (fun _ z => by cases z), z1, Dats.mono plus_same _ _ z2⟩
      | non => exact Dat.mono plus_same .non v h
      | bl b => exact Dat.mono plus_same (.bl b) v h
      | int b => exact Dat.mono plus_same (.int b) v h
      | str b => exact Dat.mono plus_same (.str b) v h
      | ref b => exact Dat.mono plus_same (.ref b) v h
      | dkz ks b => exact Dat.mono plus_same (.dkz ks b) v h
      | obj c fs xs =>
        obtain ⟨a, dx, us, rfl, ra, z1, z2⟩ := h
        unfold Dat
        exact ⟨a, dx, us, rfl, plus_in sh ra (ht a (by simp [tops])) (fun _ z => by cases z) (fun _ z => by cases z), z1, Dats.mono plus_same _ _ z2⟩
      | scr b => exact Dat.mono plus_same (.scr b) v h
      | tup b => exact Dat.mono plus_same (.tup b) v h
    · cases v <;> simp_all [tops]
theorem plus_tb {H S : Hp} {vs : List V} (t : Tbq S H) : Tbq (plusS H S vs) H := ⟨t.1, fun x hx => by
  obtain ⟨ps, h2, _⟩ := t.1 x hx
  unfold plusS
  rw [if_neg (fun ⟨_, _, o, ho, _, n⟩ => n ps (Option.some.inj (ho.symm.trans h2)))]
  exact t.2 x hx⟩
theorem minus_grow {H S H' S' : Hp} {vs : List V} (sh : Same S H) (g : Grow H (plusS H S vs) H' S') : Grow H S H' (minusS H S S' vs) := by
  refine ⟨g.hh, fun a o h => ?_, fun a o h => ?_, fun a ha => ?_⟩
  · unfold minusS
    rw [if_neg (fun z => by rw [z.1] at h; cases h)]
    exact g.ss a o (plus_same a o h)
  · unfold minusS at h
    split at h
    · cases h
    · exact g.sh a o h
  · unfold minusS
    split
    · rename_i z
      exact z.1.symm
    · rename_i z
      rw [g.nw a ha]
      unfold plusS
      rw [if_neg z]
mutual
theorem minus_dat {H S H' S' : Hp} {vs : List V} (g : Grow H (plusS H S vs) H' S') : ∀ (d : D) (v : V), nl d = true → Dat S' d v → Dat (minusS H S S' vs) d v
  | .non, v, _, h => by unfold Dat at h ⊢; exact h
  | .bl _, v, _, h => by unfold Dat at h ⊢; exact h
  | .int _, v, _, h => by unfold Dat at h ⊢; exact h
  | .str _, v, _, h => by unfold Dat at h ⊢; exact h
  | .ref _, v, _, h => by unfold Dat at h ⊢; exact h
  | .scr _, v, n, _ => by simp [nl] at n
  | .lst _, v, n, _ => by simp [nl] at n
  | .dct _ _, v, n, _ => by simp [nl] at n
  | .dkz _ _, v, n, _ => by simp [nl] at n
  | .obj _ _ _, v, n, _ => by simp [nl] at n
  | .tup xs, v, n, h => by
    unfold Dat at h ⊢
    obtain ⟨a, ws, e, r, z⟩ := h
    refine ⟨a, ws, e, ?_, minus_dats g xs ws (by simpa [nl] using n) z⟩
    unfold minusS
    rw [if_neg]
    · exact r
    · rintro ⟨z1, z2, o, ho, hn⟩
      have e1 : plusS H S vs a = some o := by
        unfold plusS
        rw [if_pos ⟨z1, z2, o, ho, hn⟩]
        exact ho
      have e2 := g.ss a o e1
      rw [r] at e2
      cases e2
      exact hn.1 ws rfl
theorem minus_dats {H S H' S' : Hp} {vs : List V} (g : Grow H (plusS H S vs) H' S') : ∀ (xs : List D) (ws : List V), nls xs = true → Dats S' xs ws → Dats (minusS H S S' vs) xs ws
  | [], _, _, h => by unfold Dats at h ⊢; exact h
  | x :: xs, _, n, h => by
    unfold Dats at h ⊢
    obtain ⟨v, r, e, h1, h2⟩ := h
    have n' : nl x = true ∧ nls xs = true := by simpa [nls] using n
    exact ⟨v, r, e, minus_dat g x v n'.1 h1, minus_dats g xs r n'.2 h2⟩
end
def nlR : Rt → Bool
  | .val d => nl d
  | .new (.lst xs) => nls xs
  | .new (.dct _ xs) => false
  | .new (.obj _ _ xs) => false
  | .newT d => nl d
theorem minus_rt {H S H' S' : Hp} {vs : List V} (g : Grow H (plusS H S vs) H' S') : ∀ {r : Rt} {v : V}, nlR r = true → RtP H H' S' r v → RtP H H' (minusS H S S' vs) r v
  | .val d, v, n, h => minus_dat g d v n h
  | .new (.dct _ _), v, n, _ => by cases n
  | .new (.obj _ _ _), v, n, _ => by cases n
  | .newT d, v, n, ⟨h, p, us, e, h0, h1, h2⟩ => ⟨minus_dat g d v n h, p, us, e, h0, by
      unfold minusS
      rw [if_neg (fun z => by
        obtain ⟨_, _, o, z, w⟩ := z
        have := g.sh p _ h1
        by_cases y : H p = none
        · rw [y] at z; cases z
        · exact y h0)]
      exact h1, h2⟩
  | .new (.lst xs), v, n, ⟨p, o, e, h0, h1, h2, ws, h3, h4⟩ => by
    refine ⟨p, o, e, h0, ?_, h2, ws, h3, minus_dats g xs ws n h4⟩
    unfold minusS
    split
    · rfl
    · exact h1
def wCallN (sp : Spec) (wl : WL) : WE := fun x ρ Q => wl x ρ fun ds => Ask sp ds x (fun r => nlR r = true ∧ Q r.d) ⟨⟩
def wCallNF (sp : Spec) (wl : WL) : WL := fun x ρ Q => wl x ρ fun ds => Ask sp ds x (onNew fun xs => nls xs = true ∧ Q xs) ⟨⟩
theorem ed_callN (G : FnOk X.prog X.w X.K X.mg X.base (L2N.CX X.prog X.w) k f fd ps (spOf X.mg sp)) (hr : Room k X.A) (xk : XOk X E) (hg : Gl X x) (hm : X.mg x = some (.ref f)) (hk : PySem.W.keepIn X.K (.ref f) = true) (hb : Binds X.K fd ps [])
    (ha : AB X E (e :: es) wl) (hdb : (x == ("__debug__" : Str)) = false := by decide) (he : starEach (e :: es) X.env = (false, eval e X.env) :: starEach es X.env := by rfl) (hpl : (backTo pos (starEach es X.env)).any (·.1) = false := by rfl) :
    ED X E (.Call (.Name x p) (e :: es) [] pos) (wCallN sp wl) := by
  obtain ⟨t, pt, s⟩ := ha.ex
  refine ⟨_, pe_call G hr hg hm hk hb .nil xk.pass pt hdb he hpl, fun x ρ Q hw F σ H S Q' rp ex k => ?_⟩
  refine s x ρ _ hw F σ H S _ rp ex fun ds vs H1 S1 q1 g1 h1 => ?_
  refine ⟨ds, plusS H1 S1 vs, x, _, ⟨plus_sh g1.sh, plus_tb (rp.grow g1).fg.tb⟩, by rw [List.append_nil]; exact plus_dats g1.sh h1 fun _ h => h, q1, fun r v H2 S2 q2 g2 h2 => ?_, fun n C H2 S2 xn hC g2 => ex n C H2 _ xn hC (g1.trans (minus_grow g1.sh g2))⟩
  obtain ⟨S3, g3, h3⟩ := (minus_rt g2 q2.1 h2).dat (minus_grow g1.sh g2)
  exact k _ _ H2 S3 q2.2 (g1.trans g3) h3
theorem df_callN (G : FnOk X.prog X.w X.K X.mg X.base (L2N.CX X.prog X.w) k f fd ps (spOf X.mg sp)) (hr : Room k X.A) (xk : XOk X E) (hg : Gl X x) (hm : X.mg x = some (.ref f)) (hk : PySem.W.keepIn X.K (.ref f) = true) (hb : Binds X.K fd ps [])
    (ha : AB X E (e :: es) wl) (hdb : (x == ("__debug__" : Str)) = false := by decide) (he : starEach (e :: es) X.env = (false, eval e X.env) :: starEach es X.env := by rfl) (hpl : (backTo pos (starEach es X.env)).any (·.1) = false := by rfl) :
    DF X E (.Call (.Name x p) (e :: es) [] pos) (wCallNF sp wl) := by
  obtain ⟨t, pt, s⟩ := ha.ex
  refine ⟨_, pe_call G hr hg hm hk hb .nil xk.pass pt hdb he hpl, fun x ρ Q hw F σ H S Q' rp ex k => ?_⟩
  refine s x ρ _ hw F σ H S _ rp ex fun ds vs H1 S1 q1 g1 h1 => ?_
  refine ⟨ds, plusS H1 S1 vs, x, _, ⟨plus_sh g1.sh, plus_tb (rp.grow g1).fg.tb⟩, by rw [List.append_nil]; exact plus_dats g1.sh h1 fun _ h => h, q1, fun r v H2 S2 q2 g2 h2 => ?_, fun n C H2 S2 xn hC g2 => ex n C H2 _ xn hC (g1.trans (minus_grow g1.sh g2))⟩
  cases r with
  | val d => exact q2.elim
  | newT d => exact q2.elim
  | new c =>
    cases c with
    | dct _ _ => exact q2.elim
    | obj _ _ _ => exact q2.elim
    | lst xs =>
      obtain ⟨p, o, rfl, z0, z1, z2, ws, rfl, z3⟩ := minus_rt (r := .new (.lst xs)) g2 q2.1 h2
      exact k xs p ws H2 _ q2.2 (g1.trans (minus_grow g1.sh g2)) (g1.freeH z0) z1 z2 z3
end
end NL

namespace NL
open PySem PySem.Spec L2
open PyProof.Rows hiding St
variable [KC]

/-! ### the readings that a data word gives, in any context -/
def canE (mg : Str → Option Value) (E : XK) (w : WE) : TE := fun σ H Q' => ∃ (x : XS) (ρ : Ev) (Q : D → Prop) (F : Fr) (S : Hp), w x ρ Q ∧ Rep F ρ σ H S ∧ ExOk mg E x H S ∧ ∀ d v H' S', Q d → Grow H S H' S' → Dat S' d v → Q' v H'
def canT (mg : Str → Option Value) (E : XK) (w : WT) : TT := fun σ H Q' => ∃ (x : XS) (ρ : Ev) (Q : Bool → Prop) (F : Fr) (S : Hp), w x ρ Q ∧ Rep F ρ σ H S ∧ ExOk mg E x H S ∧ ∀ b H' S', Q b → Grow H S H' S' → Q' b H'
theorem ED.can {X : Cx} {E : XK} {e : Expr} {w : WE} (h : ED X E e w) : PE X e (canE X.mg E w) := by
  obtain ⟨t, p, s⟩ := h.ex
  refine ⟨fun pins st σ H Q I hq => ?_⟩
  obtain ⟨x, ρ, Q2, F, S, h1, h2, h3, h4⟩ := hq
  exact p.run pins st σ H Q I (s x ρ Q2 h1 F σ H S Q h2 h3 h4)
theorem TD.can {X : Cx} {E : XK} {e : Expr} {w : WT} (h : TD X E e w) : PT X e (canT X.mg E w) := by
  obtain ⟨t, p, s⟩ := h.ex
  refine ⟨fun pins st σ H Q I hq => ?_⟩
  obtain ⟨x, ρ, Q2, F, S, h1, h2, h3, h4⟩ := hq
  exact p.run pins st σ H Q I (s x ρ Q2 h1 F σ H S Q h2 h3 h4)

/-! ### targets -/
theorem wipe_get (σ : L2.St) (j : Nat) : ∀ vs : List Nat, (wipe σ vs)[j]? = if j ∈ vs then σ[j]?.map (fun _ => none) else σ[j]?
  | [] => by simp [wipe]
  | v :: vs => by
    have ih := wipe_get σ j vs
    unfold wipe
    by_cases h : v = j
    · subst h
      rw [List.getElem?_set, if_pos rfl, wipe_length, if_pos (show v ∈ v :: vs by simp)]
      by_cases hl : v < σ.length
      · rw [if_pos hl, List.getElem?_eq_getElem hl]; rfl
      · rw [if_neg hl, List.getElem?_eq_none (by omega)]; rfl
    · rw [List.getElem?_set_ne h, ih]
      have : (j ∈ v :: vs) ↔ j ∈ vs := by
        rw [List.mem_cons]
        exact ⟨fun z => z.elim (fun z => absurd z.symm h) id, .inr⟩
      simp only [this]
theorem wipe_set {σ : L2.St} {i : Nat} {x : Option V} {vs : List Nat} (h : i ∈ vs) : wipe (σ.set i x) vs = wipe σ vs := by
  apply List.ext_getElem?
  intro j
  rw [wipe_get, wipe_get]
  by_cases hj : j ∈ vs
  · rw [if_pos hj, if_pos hj]
    by_cases e : i = j
    · subst e
      rw [List.getElem?_set, if_pos rfl]
      by_cases hl : i < σ.length
      · rw [if_pos hl, List.getElem?_eq_getElem hl]; rfl
      · rw [if_neg hl, List.getElem?_eq_none (by omega)]
    · rw [List.getElem?_set_ne e]
  · rw [if_neg hj, if_neg hj, List.getElem?_set_ne (fun e => hj (by rw [← e]; exact h))]
theorem wipe_wipe {σ : L2.St} {vs : List Nat} : wipe (wipe σ vs) vs = wipe σ vs := by
  apply List.ext_getElem?
  intro j
  rw [wipe_get, wipe_get]
  by_cases hj : j ∈ vs
  · rw [if_pos hj, if_pos hj]
    cases σ[j]? <;> rfl
  · rw [if_neg hj, if_neg hj]
def wipeE (ρ : Ev) : List Nat → Ev
  | [] => ρ
  | v :: vs => (wipeE ρ vs).set v .un
theorem Rep.wipe {F : Fr} {ρ : Ev} {σ : L2.St} {H S : Hp} (r : Rep F ρ σ H S) : ∀ vs : List Nat, Rep F (wipeE ρ vs) (L2.wipe σ vs) H S
  | [] => r
  | v :: vs => (r.wipe vs).unset
abbrev WG := D → Ev → (Ev → Prop) → Prop
structure GD (X : Cx) (tg : Expr) (is : List Nat) (g : WG) : Prop where
  ex : ∃ t, PG X tg t ∧ ∀ (d : D) (ρ : Ev) (Q : Ev → Prop), g d ρ Q → ∀ (F : Fr) (σ : L2.St) (H S : Hp) (v : V) (Q' : L2.St → Hp → Prop), Rep F ρ σ H S → Dat S d v →
    (∀ ρ' σ', Q ρ' → Rep F ρ' σ' H S → (∀ vs : List Nat, (∀ i ∈ is, i ∈ vs) → wipe σ' vs = wipe σ vs) → Q' σ' H) → t v σ H Q'
abbrev WGs := List D → Ev → (Ev → Prop) → Prop
structure GDs (X : Cx) (tgs : List Expr) (is : List Nat) (g : WGs) : Prop where
  ex : ∃ t, PGs X tgs t ∧ ∀ (ds : List D) (ρ : Ev) (Q : Ev → Prop), g ds ρ Q → ∀ (F : Fr) (σ : L2.St) (H S : Hp) (vs : List V) (Q' : L2.St → Hp → Prop), Rep F ρ σ H S → Dats S ds vs →
    (∀ ρ' σ', Q ρ' → Rep F ρ' σ' H S → (∀ vs : List Nat, (∀ i ∈ is, i ∈ vs) → wipe σ' vs = wipe σ vs) → Q' σ' H) → t vs σ H Q'
def canG (g : WG) (is : List Nat) : TG := fun v σ H Q' => ∃ (d : D) (ρ : Ev) (Q : Ev → Prop) (F : Fr) (S : Hp), g d ρ Q ∧ Rep F ρ σ H S ∧ Dat S d v ∧ ∀ ρ' σ', Q ρ' → Rep F ρ' σ' H S → (∀ vs : List Nat, (∀ i ∈ is, i ∈ vs) → wipe σ' vs = wipe σ vs) → Q' σ' H
section
variable {X : Cx} {E : XK} {pos : Pos}
theorem GD.can {tg : Expr} {is : List Nat} {g : WG} (h : GD X tg is g) : PG X tg (canG g is) := by
  obtain ⟨t, p, s⟩ := h.ex
  refine ⟨fun pins st σ H v u Q I r hq => ?_⟩
  obtain ⟨d, ρ, Q2, F, S, h1, h2, h3, h4⟩ := hq
  exact p.run pins st σ H v u Q I r (s d ρ Q2 h1 F σ H S v Q h2 h3 h4)
def wgName (i : Nat) : WG := fun d ρ Q => Q (ρ.set i (.fz d))
theorem gd_name (i : Nat) {x : Str} (hN : X.N.Nodup) (hi : X.N[i]? = some x := by rfl) (hx : Loc X.env.scope x := by first | exact Or.inl rfl | exact Or.inr rfl) (hf : X.fn x = true ∨ X.env.scope.names.lookup x = some .local := by first | exact .inl rfl | exact .inr rfl) : GD X (.Name x pos) [i] (wgName i) :=
  ⟨_, pg_name hN hi hx hf, fun d ρ Q hw F σ H S v Q' rp hd k => k _ _ hw (rp.set hd) fun vs h => wipe_set (h i (by simp))⟩
def wgNil : WGs := fun ds ρ Q => match ds with
  | [] => Q ρ
  | _ => False
def wgCons (g : WG) (gs : WGs) : WGs := fun ds ρ Q => match ds with
  | d :: r => g d ρ fun ρ1 => gs r ρ1 Q
  | _ => False
theorem gds_nil : GDs X [] [] wgNil := by
  refine ⟨_, pgs_nil, fun ds ρ Q hw F σ H S vs Q' rp hd k => ?_⟩
  cases ds with
  | nil =>
    unfold Dats at hd
    exact ⟨hd, k _ _ hw rp fun _ _ => rfl⟩
  | cons _ _ => exact hw.elim
theorem gds_cons {e : Expr} {es : List Expr} {is js : List Nat} {g : WG} {gs : WGs} (h1 : GD X e is g) (h2 : GDs X es js gs)
    (hs : (assignEach (e :: es) X.env).map (·.2) = assign e X.env :: (assignEach es X.env).map (·.2) := by rfl) : GDs X (e :: es) (is ++ js) (wgCons g gs) := by
  obtain ⟨t, p, s⟩ := h1.ex
  obtain ⟨t', p', s'⟩ := h2.ex
  refine ⟨_, pgs_cons p p' hs, fun ds ρ Q hw F σ H S vs Q' rp hd k => ?_⟩
  cases ds with
  | nil => exact hw.elim
  | cons d r =>
    unfold Dats at hd
    obtain ⟨v, ws, e, q1, q2⟩ := hd
    refine ⟨v, ws, e, s d ρ _ hw F σ H S v _ rp q1 fun ρ1 σ1 h1 r1 w1 => s' r ρ1 _ h1 F σ1 H S ws _ r1 q2 fun ρ2 σ2 h2 r2 w2 => k _ _ h2 r2 fun vs hv => ?_⟩
    rw [w2 vs (fun i hi => hv i (List.mem_append_right _ hi)), w1 vs (fun i hi => hv i (List.mem_append_left _ hi))]
def wgTup (n : Nat) (gs : WGs) : WG := fun d ρ Q => match d with
  | .tup ds => ds.length = n ∧ gs ds ρ Q
  | _ => False
theorem gd_tup {es : List Expr} {k : Nat} {is : List Nat} {gs : WGs} {n : Nat} (hc : X.calm = true) (h : GDs X es is gs) (hn : (assignEach es X.env).length = n := by rfl) (hst : (assignEach es X.env).findIdx? (·.1) = none := by rfl) :
    GD X (.Tuple es k pos) is (wgTup n gs) := by
  obtain ⟨t, p, s⟩ := h.ex
  refine ⟨_, pg_tup hc p hn hst, fun d ρ Q hw F σ H S v Q' rp hd k => ?_⟩
  cases d with
  | tup ds =>
    unfold Dat at hd
    obtain ⟨a, vs, rfl, r, q⟩ := hd
    exact ⟨a, vs, rfl, .of (rp.sh _ _ r), by rw [q.len]; exact hw.1, s ds ρ _ hw.2 F σ H S vs _ rp q k⟩
  | _ => exact hw.elim

/-! ### what is walked -/
def ItOk (J : It) (S0 : Hp) (ds : List D) : Prop := ∀ (i : Nat) (H S : Hp), Same S0 S → Same S H →
  (∀ d, ds[i]? = some d → J.go i H ∧ ∀ x H', J.yld i H x H' → ∃ S', Grow H S H' S' ∧ Dat S' d x) ∧ (ds.length ≤ i → J.stop i H)
structure ID (X : Cx) (E : XK) (tg iter : Expr) (w : WL) : Prop where
  ex : ∃ wi, PI X tg iter wi ∧ ∀ (x : XS) (ρ : Ev) (Q : List D → Prop), w x ρ Q → ∀ (F : Fr) (σ : L2.St) (H S : Hp) (R : It → Hp → Prop), Rep F ρ σ H S → ExOk X.mg E x H S →
    (∀ ds J H' S', Q ds → Grow H S H' S' → ItOk J S' ds → R J H') → wi σ H R
theorem sql_inj {K : PySem.W.Frag} : True := trivial
/-- a shared list, by its items -/
theorem it_list {K : PySem.W.Frag} {S0 : Hp} {a : Addr} {vs : List V} {ds : List D} (h : ∀ H, Same S0 H → SqL K H a vs) (q : Dats S0 ds vs) : ItOk (Itl K a) S0 ds := fun i H S e1 e2 => by
  have hs : SqL K H a vs := h H (e1.trans e2)
  refine ⟨fun d hd => ?_, fun hl => ⟨vs, hs, by rw [q.len]; exact hl⟩⟩
  obtain ⟨v, hv, hz⟩ := q.get hd
  refine ⟨⟨vs, v, hs, hv⟩, fun x H' y => ?_⟩
  obtain ⟨e, y⟩ := y
  subst e
  have := y vs hs
  rw [hv] at this
  cases this
  exact ⟨S, .refl e2, Dat.mono e1 _ _ hz⟩
def wSeq (wa : WE) : WL := fun x ρ Q => wa x ρ fun d => match d with
  | .lst xs => Q xs
  | .scr ns => Q (ns.map D.int)
  | _ => False
variable {e a b : Expr} {w wa wb wc : WE} {tg : Expr} {p : Pos}
theorem id_list (ha : ED X E a wa) (hK : X.K = KC.K := by rfl) : ID X E tg a (wSeq wa) := by
  obtain ⟨t, pt, s⟩ := ha.ex
  refine ⟨_, pi_list pt, fun x ρ Q hw F σ H S R rp ex k => ?_⟩
  refine s x ρ _ hw F σ H S _ rp ex fun d u H1 S1 q1 g1 h1 => ?_
  cases d with
  | lst xs =>
    unfold Dat at h1
    obtain ⟨a, vs, rfl, r, z⟩ := h1
    exact ⟨a, rfl, ⟨vs, .of (g1.sh _ _ r)⟩, k xs _ H1 S1 q1 g1 (it_list (fun H e => .of (e _ _ r)) z)⟩
  | scr ns =>
    unfold Dat at h1
    obtain ⟨a, rfl, r⟩ := h1
    exact ⟨a, rfl, ⟨_, by rw [hK]; exact g1.sh.seq r⟩, k _ _ H1 S1 q1 g1 (it_list (fun H e => by rw [hK]; exact e.seq r) (Dats.ints ns))⟩
  | _ => exact q1.elim
def wSeqT (wa : WE) : WL := fun x ρ Q => wa x ρ fun d => match d with
  | .tup xs => Q xs
  | _ => False
theorem id_tup (ha : ED X E a wa) : ID X E tg a (wSeqT wa) := by
  obtain ⟨t, pt, s⟩ := ha.ex
  refine ⟨_, pi_tup pt, fun x ρ Q hw F σ H S R rp ex k => ?_⟩
  refine s x ρ _ hw F σ H S _ rp ex fun d u H1 S1 q1 g1 h1 => ?_
  cases d with
  | tup xs =>
    unfold Dat at h1
    obtain ⟨a, vs, rfl, r, z⟩ := h1
    refine ⟨a, rfl, ⟨vs, .of (g1.sh _ _ r)⟩, k xs _ H1 S1 q1 g1 fun i H S e1 e2 => ?_⟩
    have hs : SqT X.K H a vs := .of (e2 _ _ (e1 _ _ r))
    refine ⟨fun d hd => ?_, fun hl => ⟨vs, hs, by rw [z.len]; exact hl⟩⟩
    obtain ⟨v, hv, hz⟩ := z.get hd
    refine ⟨⟨vs, v, hs, hv⟩, fun x H' y => ?_⟩
    obtain ⟨e, y⟩ := y
    subst e
    have := y vs hs
    rw [hv] at this
    cases this
    exact ⟨S, .refl e2, Dat.mono e1 _ _ hz⟩
  | _ => exact q1.elim
def signs (z : Str) : List D := z.cps.toList.map fun c => .str ⟨#[c]⟩
def wSigns (wa : WE) : WL := fun x ρ Q => wa x ρ fun d => match d with
  | .str z => Q (signs z)
  | _ => False
theorem id_str (ha : ED X E a wa) : ID X E tg a (wSigns wa) := by
  obtain ⟨t, pt, s⟩ := ha.ex
  refine ⟨_, pi_str pt, fun x ρ Q hw F σ H S R rp ex k => ?_⟩
  refine s x ρ _ hw F σ H S _ rp ex fun d u H1 S1 q1 g1 h1 => ?_
  cases d with
  | str z =>
    unfold Dat at h1
    refine ⟨z, h1, k _ _ H1 S1 q1 g1 fun i H S e1 e2 => ⟨fun d hd => ?_, fun hl => ?_⟩⟩
    · unfold signs at hd
      rw [List.getElem?_map] at hd
      cases q : z.cps.toList[i]? with
      | none => rw [q] at hd; cases hd
      | some c =>
        rw [q] at hd
        cases hd
        have hi : i < z.cps.size := by
          rcases Nat.lt_or_ge i z.cps.size with h | h
          · exact h
          · rw [List.getElem?_eq_none (by simpa using h)] at q; cases q
        refine ⟨hi, fun x H' y => ?_⟩
        obtain ⟨e, c', hc, y⟩ := y
        subst e
        subst y
        rw [← Array.getElem?_toList, q] at hc
        cases hc
        exact ⟨S, .refl e2, .s⟩
    · unfold signs at hl
      rw [List.length_map] at hl
      exact hl
  | _ => exact q1.elim
/-- lo, lo + c, .. so many -/
def rngD (lo c : Int) (n : Nat) : List D := (List.range n).map fun (i : Nat) => .int (lo + (i : Int) * c)
theorem it_rng {S0 : Hp} {lo : Int} {n : Nat} : ItOk (Itr lo n) S0 (rngD lo 1 n) := fun i H S e1 e2 => by
  refine ⟨fun d hd => ?_, fun hl => by unfold rngD at hl; rw [List.length_map, List.length_range] at hl; exact hl⟩
  unfold rngD at hd
  rw [List.getElem?_map] at hd
  cases q : (List.range n)[i]? with
  | none => rw [q] at hd; cases hd
  | some j =>
    rw [q] at hd
    cases hd
    obtain ⟨hi, hj⟩ := List.getElem?_eq_some_iff.mp q
    simp at hi hj
    subst hj
    refine ⟨hi, fun x H' y => ?_⟩
    obtain ⟨e, y⟩ := y
    subst e y
    exact ⟨S, .refl e2, by show Dat S (.int (lo + (i : Int) * 1)) _; rw [Int.mul_one]; exact .i⟩
theorem it_rngC {S0 : Hp} {lo c : Int} {n : Nat} : ItOk (Itc lo c n) S0 (rngD lo c n) := fun i H S e1 e2 => by
  refine ⟨fun d hd => ?_, fun hl => by unfold rngD at hl; rw [List.length_map, List.length_range] at hl; exact hl⟩
  unfold rngD at hd
  rw [List.getElem?_map] at hd
  cases q : (List.range n)[i]? with
  | none => rw [q] at hd; cases hd
  | some j =>
    rw [q] at hd
    cases hd
    obtain ⟨hi, hj⟩ := List.getElem?_eq_some_iff.mp q
    simp at hi hj
    subst hj
    refine ⟨hi, fun x H' y => ?_⟩
    obtain ⟨e, y⟩ := y
    subst e y
    exact ⟨S, .refl e2, .i⟩
def smallI (i : Int) : Prop := -(2 ^ 62) ≤ i ∧ i < 2 ^ 62
def wRng1 (wa : WE) : WL := fun x ρ Q => wa x ρ fun d => match d with
  | .int n => smallI n ∧ Q (rngD 0 1 n.toNat)
  | _ => False
theorem id_range1 (hg : Gl X "range") (hm : X.mg "range" = none) (ha : ED X E a wa) (hs : starEach [a] X.env = [(false, eval a X.env)] := by rfl) (he : starEach (a :: []) X.env = (false, eval a X.env) :: starEach [] X.env := by rfl) :
    ID X E tg (.Call (.Name "range" p) [a] [] pos) (wRng1 wa) := by
  obtain ⟨t, pt, s⟩ := (ad_cons ha ad_nil he).ex
  refine ⟨_, pi_range1 hg hm pt hs, fun x ρ Q hw F σ H S R rp ex k => ?_⟩
  refine s x ρ (fun ds => match ds with
    | [d] => match d with
      | .int n => smallI n ∧ Q (rngD 0 1 n.toNat)
      | _ => False
    | _ => False) ?_ F σ H S _ rp ex fun ds vs H1 S1 q1 g1 h1 => ?_
  · exact hw
  · split at q1
    · split at q1
      · unfold Dats Dats Dat at h1
        obtain ⟨_, _, rfl, rfl, rfl⟩ := h1
        exact ⟨_, rfl, q1.1.1, q1.1.2, k _ _ H1 S1 q1.2 g1 it_rng⟩
      · exact q1.elim
    · exact q1.elim
def wRng2 (wa wb : WE) : WL := fun x ρ Q => wa x ρ fun d => wb x ρ fun e => match d, e with
  | .int i, .int j => smallI i ∧ smallI j ∧ Q (rngD i 1 (j - i).toNat)
  | _, _ => False
theorem id_range2 (hg : Gl X "range") (hm : X.mg "range" = none) (ha : ED X E a wa) (hb : ED X E b wb) (hs : starEach [a, b] X.env = [(false, eval a X.env), (false, eval b X.env)] := by rfl) (hs2 : starEach [b] X.env = [(false, eval b X.env)] := by rfl)
    (he : starEach (a :: [b]) X.env = (false, eval a X.env) :: starEach [b] X.env := by rfl) (he2 : starEach (b :: []) X.env = (false, eval b X.env) :: starEach [] X.env := by rfl) :
    ID X E tg (.Call (.Name "range" p) [a, b] [] pos) (wRng2 wa wb) := by
  obtain ⟨t, pt, s⟩ := (ad_cons ha (ad_cons hb ad_nil he2) he).ex
  refine ⟨_, pi_range2 hg hm pt hs hs2, fun x ρ Q hw F σ H S R rp ex k => ?_⟩
  refine s x ρ (fun ds => match ds with
    | [d, e] => match d, e with
      | .int i, .int j => smallI i ∧ smallI j ∧ Q (rngD i 1 (j - i).toNat)
      | _, _ => False
    | _ => False) ?_ F σ H S _ rp ex fun ds vs H1 S1 q1 g1 h1 => ?_
  · exact hw
  · split at q1
    · split at q1
      · unfold Dats Dats Dats Dat at h1
        obtain ⟨_, _, rfl, rfl, _, _, rfl, rfl, rfl⟩ := h1
        exact ⟨_, _, rfl, ⟨q1.1.1, q1.1.2, q1.2.1.1, q1.2.1.2⟩, k _ _ H1 S1 q1.2.2 g1 it_rng⟩
      · exact q1.elim
    · exact q1.elim
def wRng3 (wa wb wc : WE) : WL := fun x ρ Q => wa x ρ fun d => wb x ρ fun e => wc x ρ fun f => match d, e, f with
  | .int i, .int j, .int l => ∃ n, RgC i j l n ∧ Q (rngD i l n)
  | _, _, _ => False
theorem id_range3 {c : Expr} (hg : Gl X "range") (hm : X.mg "range" = none) (ha : ED X E a wa) (hb : ED X E b wb) (hc : ED X E c wc) (hs : starEach [a, b, c] X.env = (false, eval a X.env) :: starEach [b, c] X.env := by rfl) (hpl : (backTo pos (starEach [b, c] X.env)).any (·.1) = false := by rfl)
    (he : starEach (a :: [b, c]) X.env = (false, eval a X.env) :: starEach [b, c] X.env := by rfl) (he2 : starEach (b :: [c]) X.env = (false, eval b X.env) :: starEach [c] X.env := by rfl) (he3 : starEach (c :: []) X.env = (false, eval c X.env) :: starEach [] X.env := by rfl) :
    ID X E tg (.Call (.Name "range" p) [a, b, c] [] pos) (wRng3 wa wb wc) := by
  obtain ⟨t, pt, s⟩ := (ad_cons ha (ad_cons hb (ad_cons hc ad_nil he3) he2) he).ex
  refine ⟨_, pi_range3 hg hm pt hs hpl, fun x ρ Q hw F σ H S R rp ex k => ?_⟩
  refine s x ρ (fun ds => match ds with
    | [d, e, f] => match d, e, f with
      | .int i, .int j, .int l => ∃ n, RgC i j l n ∧ Q (rngD i l n)
      | _, _, _ => False
    | _ => False) ?_ F σ H S _ rp ex fun ds vs H1 S1 q1 g1 h1 => ?_
  · exact hw
  · split at q1
    · split at q1
      · unfold Dats Dats Dats Dats Dat at h1
        obtain ⟨_, _, rfl, rfl, _, _, rfl, rfl, _, _, rfl, rfl, rfl⟩ := h1
        obtain ⟨n, q2, q3⟩ := q1
        exact ⟨_, _, _, n, rfl, q2, k _ _ H1 S1 q3 g1 it_rngC⟩
      · exact q1.elim
    · exact q1.elim
def wRev (wa : WE) : WL := fun x ρ Q => wa x ρ fun d => match d with
  | .lst xs => Q xs.reverse
  | _ => False
theorem id_rev (hg : Gl X "reversed") (hm : X.mg "reversed" = none) (ha : ED X E a wa) (hs : starEach [a] X.env = [(false, eval a X.env)] := by rfl) (he : starEach (a :: []) X.env = (false, eval a X.env) :: starEach [] X.env := by rfl) :
    ID X E tg (.Call (.Name "reversed" p) [a] [] pos) (wRev wa) := by
  obtain ⟨t, pt, s⟩ := (ad_cons ha ad_nil he).ex
  refine ⟨_, pi_reversed hg hm pt hs, fun x ρ Q hw F σ H S R rp ex k => ?_⟩
  refine s x ρ (fun ds => match ds with
    | [d] => match d with
      | .lst xs => Q xs.reverse
      | _ => False
    | _ => False) ?_ F σ H S _ rp ex fun ds vs H1 S1 q1 g1 h1 => ?_
  · exact hw
  · split at q1
    · split at q1
      · rename_i xs
        unfold Dats Dats Dat at h1
        obtain ⟨_, _, rfl, ⟨a, vs, rfl, r, z⟩, rfl⟩ := h1
        refine ⟨a, vs, rfl, .of (g1.sh _ _ r), k _ _ H1 S1 q1 g1 fun i H S e1 e2 => ?_⟩
        have hs : SqL X.K H a vs := .of (e2 _ _ (e1 _ _ r))
        have zl := z.len
        refine ⟨fun d hd => ?_, fun hl => by rw [List.length_reverse] at hl; show vs.length ≤ i; omega⟩
        have hi : i < xs.length := by
          rcases Nat.lt_or_ge i xs.length with h | h
          · exact h
          · rw [List.getElem?_eq_none (by simpa using h)] at hd; cases hd
        rw [List.getElem?_reverse hi] at hd
        obtain ⟨v, hv, hz⟩ := z.get hd
        rw [← zl] at hv
        refine ⟨⟨by rw [zl]; exact hi, vs, v, hs, hv⟩, fun x H' y => ?_⟩
        obtain ⟨e, y⟩ := y
        subst e
        have := y vs hs
        rw [hv] at this
        cases this
        exact ⟨S, .refl e2, Dat.mono e1 _ _ hz⟩
      · exact q1.elim
    · exact q1.elim
def pairs (xs ys : List D) : List D := (xs.zip ys).map fun p => .tup [p.1, p.2]
def numbered (xs : List D) : List D := (List.range xs.length).zip xs |>.map fun p => .tup [.int (p.1 : Nat), p.2]
def wEnum (wa : WE) : WL := fun x ρ Q => wa x ρ fun d => match d with
  | .lst xs => Q (numbered xs)
  | _ => False
theorem id_enum {elts : List Expr} {kk : Nat} {tpos : Pos} (hg : Gl X "enumerate") (hm : X.mg "enumerate" = none) (ha : ED X E a wa) (hs : starEach [a] X.env = [(false, eval a X.env)] := by rfl) (he : starEach (a :: []) X.env = (false, eval a X.env) :: starEach [] X.env := by rfl) :
    ID X E (.Tuple elts kk tpos) (.Call (.Name "enumerate" p) [a] [] pos) (wEnum wa) := by
  obtain ⟨t, pt, s⟩ := (ad_cons ha ad_nil he).ex
  refine ⟨_, pi_enum hg hm pt hs, fun x ρ Q hw F σ H S R rp ex k => ?_⟩
  refine s x ρ (fun ds => match ds with
    | [d] => match d with
      | .lst xs => Q (numbered xs)
      | _ => False
    | _ => False) ?_ F σ H S _ rp ex fun ds vs H1 S1 q1 g1 h1 => ?_
  · exact hw
  · split at q1
    · split at q1
      · rename_i xs
        unfold Dats Dats Dat at h1
        obtain ⟨_, _, rfl, ⟨a, vs, rfl, r, z⟩, rfl⟩ := h1
        refine ⟨a, vs, rfl, .of (g1.sh _ _ r), k _ _ H1 S1 q1 g1 fun i H S e1 e2 => ?_⟩
        have hs : SqL X.K H a vs := .of (e2 _ _ (e1 _ _ r))
        have zl := z.len
        refine ⟨fun d hd => ?_, fun hl => ⟨vs, hs, by unfold numbered at hl; simp at hl; omega⟩⟩
        unfold numbered at hd
        rw [List.getElem?_map] at hd
        cases q : ((List.range xs.length).zip xs)[i]? with
        | none => rw [q] at hd; cases hd
        | some pr =>
          rw [q] at hd
          cases hd
          obtain ⟨pn, pd⟩ := pr
          obtain ⟨q2, q3⟩ := List.getElem?_zip_eq_some.mp q
          obtain ⟨hi, hj⟩ := List.getElem?_eq_some_iff.mp q2
          simp at hi hj
          subst hj
          obtain ⟨v, hv, hz⟩ := z.get q3
          refine ⟨⟨vs, v, hs, hv⟩, fun x H' y => ?_⟩
          obtain ⟨T, y1, rfl, hT, rfl, y⟩ := y
          have := y vs hs
          rw [hv] at this
          cases this
          obtain ⟨g, dd⟩ := lay_tup e2 hT (.cons (.i (i := (i : Nat))) (.one (Dat.mono e1 _ _ hz)))
          exact ⟨_, g, dd⟩
      · exact q1.elim
    · exact q1.elim
def wZip (wa wb : WE) : WL := fun x ρ Q => wa x ρ fun d => wb x ρ fun e => match d, e with
  | .lst xs, .lst ys => Q (pairs xs ys)
  | _, _ => False
theorem id_zip {elts : List Expr} {kk : Nat} {tpos : Pos} (hg : Gl X "zip") (hm : X.mg "zip" = none) (ha : ED X E a wa) (hb : ED X E b wb)
    (hs : starEach [a, b] X.env = (false, eval a X.env) :: starEach [b] X.env := by rfl) (hpl : (backTo pos (starEach [b] X.env)).any (·.1) = false := by rfl) (he2 : starEach (b :: []) X.env = (false, eval b X.env) :: starEach [] X.env := by rfl) :
    ID X E (.Tuple elts kk tpos) (.Call (.Name "zip" p) [a, b] [] pos) (wZip wa wb) := by
  obtain ⟨t, pt, s⟩ := (ad_cons ha (ad_cons hb ad_nil he2) hs).ex
  refine ⟨_, pi_zip hg hm pt hs hpl, fun x ρ Q hw F σ H S R rp ex k => ?_⟩
  refine s x ρ (fun ds => match ds with
    | [d, e] => match d, e with
      | .lst xs, .lst ys => Q (pairs xs ys)
      | _, _ => False
    | _ => False) ?_ F σ H S _ rp ex fun ds vs H1 S1 q1 g1 h1 => ?_
  · exact hw
  · split at q1
    · split at q1
      · rename_i xs ys
        unfold Dats Dats Dats Dat at h1
        obtain ⟨_, _, rfl, ⟨a, vs, rfl, r, z⟩, _, _, rfl, ⟨b, us, rfl, r', z'⟩, rfl⟩ := h1
        refine ⟨a, b, vs, us, rfl, .of (g1.sh _ _ r), .of (g1.sh _ _ r'), k _ _ H1 S1 q1 g1 fun i H S e1 e2 => ?_⟩
        have hs : SqL X.K H a vs := .of (e2 _ _ (e1 _ _ r))
        have hs' : SqL X.K H b us := .of (e2 _ _ (e1 _ _ r'))
        have zl := z.len
        have zl' := z'.len
        refine ⟨fun d hd => ?_, fun hl => ⟨vs, us, hs, hs', by unfold pairs at hl; simp at hl; omega⟩⟩
        unfold pairs at hd
        rw [List.getElem?_map] at hd
        cases q : (xs.zip ys)[i]? with
        | none => rw [q] at hd; cases hd
        | some pr =>
          rw [q] at hd
          cases hd
          obtain ⟨q1, q2⟩ := List.getElem?_zip_eq_some.mp q
          obtain ⟨v, hv, hz⟩ := z.get q1
          obtain ⟨u, hu, hz'⟩ := z'.get q2
          refine ⟨⟨vs, us, v, u, hs, hs', hv, hu⟩, fun x H' y => ?_⟩
          obtain ⟨T, y1, y2, rfl, hT, rfl, y, y'⟩ := y
          have e3 := y vs hs
          rw [hv] at e3
          cases e3
          have e4 := y' us hs'
          rw [hu] at e4
          cases e4
          obtain ⟨g, dd⟩ := lay_tup e2 hT (.cons (Dat.mono e1 _ _ hz) (.one (Dat.mono e1 _ _ hz')))
          exact ⟨_, g, dd⟩
      · exact q1.elim
    · exact q1.elim

/-! ### list comprehensions -/
abbrev X0 : XS := fun _ => False
def compL (g : WG) (wt : WT) (we : WE) (ρ : Ev) (Q : List D → Prop) : List D → List D → Prop
  | [], acc => Q acc
  | d :: ds, acc => g d ρ fun ρ2 => wt X0 ρ2 fun b => Br b (we X0 ρ2 fun y => acc.length < sizeLine ∧ compL g wt we ρ Q ds (acc ++ [y])) (compL g wt we ρ Q ds acc) ⟨⟩ ⟨⟩
def wLc (wi : WL) (g : WG) (wt : WT) (we : WE) (vs : List Nat) : WL := fun x ρ Q => wi x ρ fun ds => compL g wt we (wipeE ρ vs) Q ds []
theorem exOk0 {mg : Str → Option Value} {H S : Hp} : ExOk mg E0 X0 H S := fun _ _ _ _ h => h.elim
/-- the loop, for whatever its tests are -/
theorem lc_sound {mg : Str → Option Value} {J : It} {g : WG} {is : List Nat} {wt : WT} {tt : TT} {we : WE} {vs : List Nat} {F : Fr} {ρ : Ev} {σ : L2.St} {H0 S0 H1 S1 : Hp} {ds : List D} {Q : List D → Prop} {Q' : VK} {D0 : Addr}
    (his : ∀ i ∈ is, i ∈ vs) (rp : Rep F ρ σ H0 S0) (g1 : Grow H0 S0 H1 S1) (hJ : ItOk J S1 ds) (hD : H1 D0 = none) (hw : compL g wt we (wipeE ρ vs) Q ds [])
    (ht : ∀ (ρ2 : Ev) (σ2 : L2.St) (H S : Hp) (R : Bool → Prop) (R' : Bool → Hp → Prop), wt X0 ρ2 R → Rep F ρ2 σ2 H S → (∀ b H' S', R b → Grow H S H' S' → R' b H') → tt σ2 H R')
    (k : ∀ xs ws H' S', Q xs → Grow H0 S0 H' S' → H0 D0 = none → S' D0 = none → H' D0 = some (.lst ws) → Dats S' xs ws → Q' (.ref D0) H') :
    ∃ W : Nat → Nat → Hp → Prop, (∃ m, W 0 m (upd H1 D0 (.lst []))) ∧ ∀ i m H, W i m H →
      (J.stop i H ∧ Q' (.ref D0) H) ∨ (J.go i H ∧ ∃ Nx : Hp → Prop, (∀ H', Nx H' → ∃ m', m' < m ∧ W (i + 1) m' H') ∧ ∀ x H', J.yld i H x H' → canG g is x (wipe σ vs) H' fun σ2 H2 => wipe σ2 vs = wipe σ vs ∧ tt σ2 H2 fun b H3 =>
        if b = true then canE mg E0 we σ2 H3 fun y H4 => ∃ acc, H4 D0 = some (.lst acc) ∧ acc.length < sizeLine ∧ Nx (upd H4 D0 (.lst (acc ++ [y]))) else Nx H3) := by
  have hD0 : H0 D0 = none := g1.freeH hD
  let W : Nat → Nat → Hp → Prop := fun i m H => m = ds.length - i ∧ i ≤ ds.length ∧ ∃ S acc ws, Grow H0 S0 H S ∧ Same S1 S ∧ H D0 = some (.lst ws) ∧ S D0 = none ∧ Dats S acc ws ∧ compL g wt we (wipeE ρ vs) Q (ds.drop i) acc
  refine ⟨W, ⟨ds.length, by simp, Nat.zero_le _, S1, [], [], g1.lay hD, .refl _, upd_same, g1.freeS hD, .nil, hw⟩, ?_⟩
  rintro i m H ⟨rfl, hi, S, acc, ws, gg, ss, hH, hS, hd, hc⟩
  rcases Nat.lt_or_ge i ds.length with hlt | hge
  · obtain ⟨d, hdi⟩ : ∃ d, ds[i]? = some d := ⟨_, List.getElem?_eq_getElem hlt⟩
    obtain ⟨go, yl⟩ := (hJ i H S ss gg.sh).1 d hdi
    have hdrop : ds.drop i = d :: ds.drop (i + 1) := by
      rw [List.drop_eq_getElem_cons hlt]
      congr 1
      rw [List.getElem?_eq_getElem hlt] at hdi
      exact Option.some.inj hdi
    rw [hdrop] at hc
    refine .inr ⟨go, fun H' => W (i + 1) (ds.length - (i + 1)) H', fun H' h => ⟨_, by omega, h⟩, fun x H' y => ?_⟩
    obtain ⟨S', g', dx⟩ := yl x H' y
    refine ⟨d, wipeE ρ vs, _, F, S', hc, ((rp.grow gg).grow g').wipe vs, dx, fun ρ2 σ2 h2 r2 w2 => ⟨by rw [w2 vs his, wipe_wipe], ?_⟩⟩
    refine ht ρ2 σ2 H' S' _ _ h2 r2 fun b H3 S3 h3 g3 => ?_
    have g03 : Grow H0 S0 H3 S3 := (gg.trans g').trans g3
    have sD : S' D0 = none := by rw [g'.nw D0 (by rw [hH]; intro z; cases z)]; exact hS
    have hD' : H' D0 = some (.lst ws) := g'.hh.lst hH
    have sD3 : S3 D0 = none := by rw [g3.nw D0 (by rw [hD']; intro z; cases z)]; exact sD
    have hD3 : H3 D0 = some (.lst ws) := g3.hh.lst hD'
    cases b with
    | false => exact iteF ⟨rfl, hlt, S3, acc, ws, g03, (ss.trans g'.ss).trans g3.ss, hD3, sD3, Dats.mono g3.ss _ _ (Dats.mono g'.ss _ _ hd), h3⟩
    | true =>
      refine iteT ⟨X0, ρ2, _, F, S3, h3, r2.grow g3, exOk0, fun y v H4 S4 h4 g4 d4 => ?_⟩
      have sD4 : S4 D0 = none := by rw [g4.nw D0 (by rw [hD3]; intro z; cases z)]; exact sD3
      have hD4 : H4 D0 = some (.lst ws) := g4.hh.lst hD3
      have hd4 : Dats S4 acc ws := Dats.mono g4.ss _ _ (Dats.mono g3.ss _ _ (Dats.mono g'.ss _ _ hd))
      have g04 : Grow H0 S0 H4 S4 := g03.trans g4
      refine ⟨ws, hD4, by rw [hd4.len]; exact h4.1, rfl, hlt, S4, acc ++ [y], ws ++ [v], ⟨g04.hh.over hD0 hD4 (fun _ z => by cases z) (fun _ z => by cases z), g04.ss, fun b o e => ?_, g04.nw⟩, ((ss.trans g'.ss).trans g3.ss).trans g4.ss, upd_same, sD4, hd4.app (.one d4), h4.2⟩
      · rw [upd_ne (ne_of_none e sD4)]
        exact g04.sh b o e
  · have e : i = ds.length := by omega
    subst e
    rw [List.drop_length] at hc
    exact .inl ⟨(hJ _ H S ss gg.sh).2 (Nat.le_refl _), k acc ws H S hc gg hD0 hS hH hd⟩
variable {elt iter : Expr} {scope : Scope} {own : List (Str × Nat)} {vs : List Nat} {wi : WL} {g : WG} {is : List Nat} {we : WE} {wt : WT} {c : Expr}
def wtYes : WT := fun _ _ Q => Q true
theorem df_lc (hc : X.calm = true) (hN : X.N.Nodup) (hi : ID X E tg iter wi) (ok : BlkOk X.N X.env.scope scope own)
    (hg : ∀ (s : Shared) (H : Hp) (C : Addr) (cl : List (Str × Addr)) (fp : List Addr), GD (X.blk s H scope (compEnvC scope cl C X.env) fp) tg is g)
    (he : ∀ (s : Shared) (H : Hp) (C : Addr) (cl : List (Str × Addr)) (fp : List Addr), ED (X.blk s H scope (compEnvC scope cl C X.env) fp) E0 elt we)
    (hvs : own.map (·.2) = vs := by rfl) (his : ∀ i ∈ is, i ∈ vs := by decide) (hs : ∀ x, foldedSetIterable iter X.env x = pure x := by intro _; rfl) :
    DF X E (.ListComp elt [⟨tg, iter, [], 0⟩] scope pos) (wLc wi g wtYes we vs) := by
  subst hvs
  obtain ⟨ti, pti, s⟩ := hi.ex
  refine ⟨_, pe_lc (g := canG g is) (tt := tYes) (te := canE X.mg E0 we) hc hN pti ok (fun s H C cl fp => (hg s H C cl fp).can) (fun _ _ _ _ _ => pts_nil) (fun s H C cl fp => (he s H C cl fp).can) hs, fun x ρ Q hw F σ H S Q' rp ex k => ?_⟩
  refine s x ρ _ hw F σ H S _ rp ex fun ds J H1 S1 q1 g1 hJ D0 hD => ?_
  exact lc_sound his rp g1 hJ hD q1 (fun ρ2 σ2 H S R R' h r k => k true H S h (.refl r.sh)) fun xs ws H' S' q g h0 h1 h2 hd => k xs D0 ws H' S' q g h0 h1 h2 hd
theorem df_lcIf (hc : X.calm = true) (hN : X.N.Nodup) (hi : ID X E tg iter wi) (ok : BlkOk X.N X.env.scope scope own)
    (hg : ∀ (s : Shared) (H : Hp) (C : Addr) (cl : List (Str × Addr)) (fp : List Addr), GD (X.blk s H scope (compEnvC scope cl C X.env) fp) tg is g)
    (ht : ∀ (s : Shared) (H : Hp) (C : Addr) (cl : List (Str × Addr)) (fp : List Addr), TD (X.blk s H scope (compEnvC scope cl C X.env) fp) E0 c wt)
    (he : ∀ (s : Shared) (H : Hp) (C : Addr) (cl : List (Str × Addr)) (fp : List Addr), ED (X.blk s H scope (compEnvC scope cl C X.env) fp) E0 elt we)
    (hvs : own.map (·.2) = vs := by rfl) (his : ∀ i ∈ is, i ∈ vs := by decide) (hs : ∀ x, foldedSetIterable iter X.env x = pure x := by intro _; rfl) :
    DF X E (.ListComp elt [⟨tg, iter, [c], 0⟩] scope pos) (wLc wi g wt we vs) := by
  subst hvs
  obtain ⟨ti, pti, s⟩ := hi.ex
  refine ⟨_, pe_lc (g := canG g is) (tt := canT X.mg E0 wt) (te := canE X.mg E0 we) hc hN pti ok (fun s H C cl fp => (hg s H C cl fp).can) (fun s H C cl fp => pts_one (ht s H C cl fp).can) (fun s H C cl fp => (he s H C cl fp).can) hs, fun x ρ Q hw F σ H S Q' rp ex k => ?_⟩
  refine s x ρ _ hw F σ H S _ rp ex fun ds J H1 S1 q1 g1 hJ D0 hD => ?_
  exact lc_sound his rp g1 hJ hD q1 (fun ρ2 σ2 H S R R' h r k => ⟨X0, ρ2, R, F, S, h, r, exOk0, k⟩) fun xs ws H' S' q g h0 h1 h2 hd => k xs D0 ws H' S' q g h0 h1 h2 hd
end
end NL

namespace NL
open PySem PySem.Spec L2
open PyProof.Rows hiding St
variable [KC]

structure DEnds where
  nx : Ev → Prop
  rt : Rt → Ev → Prop
  bk : Ev → Prop := fun _ => False
  ct : Ev → Prop := fun _ => False
  ex : XS
abbrev WS := DEnds → Ev → Prop
structure EndsOk (mg : Str → Option Value) (E : XK) (F : Fr) (q : DEnds) (D : Ends) : Prop where
  nx : ∀ ρ σ H S, q.nx ρ → Rep F ρ σ H S → D.nx σ H
  rt : ∀ r ρ v σ H S, q.rt r ρ → Rep F ρ σ H S → RtP F.H0 H S r v → D.rt v H
  bk : ∀ ρ σ H S, q.bk ρ → Rep F ρ σ H S → D.bk σ H
  ct : ∀ ρ σ H S, q.ct ρ → Rep F ρ σ H S → D.ct σ H
  ex : ∀ n C H S, q.ex n → mg n = some (.ref C) → FGrow F H S → E (.ref C) none H
theorem EndsOk.exOk {mg : Str → Option Value} {E : XK} {F : Fr} {q : DEnds} {D : Ends} {ρ : Ev} {σ : L2.St} {H S : Hp} (o : EndsOk mg E F q D) (r : Rep F ρ σ H S) : ExOk mg E q.ex H S :=
  fun n C H' S' h1 h2 g => o.ex n C H' S' h1 h2 (r.fg.grow g)
structure SD (X : Cx) (E : XK) (st : Stmt) (w : WS) : Prop where
  ex : ∃ t, PS X st t ∧ ∀ (q : DEnds) (ρ : Ev), w q ρ → ∀ (F : Fr) (σ : L2.St) (H S : Hp) (D : Ends), Rep F ρ σ H S → EndsOk X.mg E F q D → t D σ H
structure SDs (X : Cx) (E : XK) (st : List Stmt) (w : WS) : Prop where
  ex : ∃ t, PSs X st t ∧ ∀ (q : DEnds) (ρ : Ev), w q ρ → ∀ (F : Fr) (σ : L2.St) (H S : Hp) (D : Ends), Rep F ρ σ H S → EndsOk X.mg E F q D → t D σ H

section
variable {X : Cx} {E : XK} {st : Stmt} {sts : List Stmt} {e a b : Expr} {pos : Pos} {w wa wb we : WE} {wt : WT} {ws wu : WS} {wl : WL}
def wsNil  : WS := fun q ρ => q.nx ρ
theorem sds_nil : SDs X E [] wsNil := ⟨_, pss_nil, fun q ρ hw F σ H S D rp o => o.nx ρ σ H S hw rp⟩
def wSeqS (w1 w2 : WS) : WS := fun q ρ => w1 { q with nx := w2 q } ρ
theorem sds_cons (h1 : SD X E st ws) (h2 : SDs X E sts wu) : SDs X E (st :: sts) (wSeqS ws wu) := by
  obtain ⟨t, p, s⟩ := h1.ex
  obtain ⟨t', p', s'⟩ := h2.ex
  refine ⟨_, pss_cons p p', fun q ρ hw F σ H S D rp o => ?_⟩
  exact s _ ρ hw F σ H S _ rp ⟨fun ρ1 σ1 H1 S1 q1 r1 => s' q ρ1 q1 F σ1 H1 S1 D r1 o, o.rt, o.bk, o.ct, o.ex⟩
theorem sds_one (h1 : SD X E st ws) : SDs X E [st] ws := by
  obtain ⟨t, p, s⟩ := h1.ex
  exact ⟨_, pss_one p, s⟩
/-- from here on the slot's own thing is shared -/
def wFrz (i : Nat) (w : WS) : WS := fun q ρ => match ρ[i]? with
  | some (.own false c) => w q (ρ.set i (.fz c.d))
  | some (.fz _) => w q ρ
  | _ => False
theorem sds_frz (i : Nat) (h : SDs X E sts ws) : SDs X E sts (wFrz i ws) := by
  obtain ⟨t, p, s⟩ := h.ex
  refine ⟨t, p, fun q ρ hw F σ H S D rp o => ?_⟩
  unfold wFrz at hw
  split at hw
  · rename_i c hi
    obtain ⟨S', r'⟩ := rp.frz hi
    exact s q _ hw F σ H S' D r' o
  · exact s q ρ hw F σ H S D rp o
  · exact hw.elim
theorem sd_pass : SD X E (.Pass pos) wsNil := ⟨_, ps_pass, fun q ρ hw F σ H S D rp o => o.nx ρ σ H S hw rp⟩
def wsBrk  : WS := fun q ρ => q.bk ρ
theorem sd_break : SD X E (.Break pos) wsBrk := ⟨_, ps_break, fun q ρ hw F σ H S D rp o => o.bk ρ σ H S hw rp⟩
def wsCnt  : WS := fun q ρ => q.ct ρ
theorem sd_continue : SD X E (.Continue pos) wsCnt := ⟨_, ps_continue, fun q ρ hw F σ H S D rp o => o.ct ρ σ H S hw rp⟩
def wsExpr (w : WE) : WS := fun q ρ => w q.ex ρ fun _ => q.nx ρ
theorem sd_expr (he : ED X E e w) (hs : swapsWith e none pos.line X.env = pure false := by rfl) : SD X E (.Expr e pos) (wsExpr w) := by
  obtain ⟨t, p, s⟩ := he.ex
  refine ⟨_, ps_expr p hs, fun q ρ hw F σ H S D rp o => ?_⟩
  exact s q.ex ρ _ hw F σ H S _ rp (o.exOk rp) fun d v H1 S1 q1 g1 h1 => o.nx ρ σ H1 S1 q1 (rp.grow g1)
def wsRet (w : WE) : WS := fun q ρ => w q.ex ρ fun d => q.rt (.val d) ρ
theorem sd_ret (he : ED X E e w) : SD X E (.Return (some e) pos) (wsRet w) := by
  obtain ⟨t, p, s⟩ := he.ex
  refine ⟨_, ps_ret p, fun q ρ hw F σ H S D rp o => ?_⟩
  exact s q.ex ρ _ hw F σ H S _ rp (o.exOk rp) fun d v H1 S1 q1 g1 h1 => o.rt _ ρ v σ H1 S1 q1 (rp.grow g1) h1
theorem fg_free {F : Fr} {H S : Hp} (f : FGrow F H S) {p : Addr} (h : H p = none) : F.H0 p = none := by
  cases q : F.H0 p with
  | none => rfl
  | some o => exact absurd h (f.al p (by rw [q]; intro z; cases z))
def wsRetF (wl : WL) : WS := fun q ρ => wl q.ex ρ fun xs => q.rt (.new (.lst xs)) ρ
theorem sd_retF (he : DF X E e wl) : SD X E (.Return (some e) pos) (wsRetF wl) := by
  obtain ⟨t, p, s⟩ := he.ex
  refine ⟨_, ps_ret p, fun q ρ hw F σ H S D rp o => ?_⟩
  exact s q.ex ρ _ hw F σ H S _ rp (o.exOk rp) fun xs p vs H1 S1 q1 g1 h0 h1 h2 hd => o.rt _ ρ _ σ H1 S1 q1 (rp.grow g1) ⟨p, _, rfl, fg_free rp.fg h0, h1, h2, vs, rfl, hd⟩
def wsRetOwn (i : Nat) : WS := fun q ρ => match ρ[i]? with
  | some (.own false c) => q.rt (.new c) ρ
  | _ => False
theorem sd_retOwn (i : Nat) {x : Str} {p : Pos} (hN : X.N[i]? = some x := by rfl) (hv : Vis X.env.scope x := by first | exact Or.inl rfl | exact Or.inr (Or.inl rfl) | exact Or.inr (Or.inr rfl)) (hd : (x == ("__debug__" : Str)) = false := by decide)
    (hcd : (x == ("__classdict__" : Str)) = false := by decide) : SD X E (.Return (some (.Name x p)) pos) (wsRetOwn i) := by
  refine ⟨_, ps_ret (pe_var hN hv hd hcd), fun q ρ hw F σ H S D rp o => ?_⟩
  unfold wsRetOwn at hw
  split at hw
  · rename_i c hi
    obtain ⟨p, u, e, h1, h2, h3, _, h4⟩ := rp.own hi
    exact ⟨.ref p, e, o.rt _ ρ _ σ H S hw rp ⟨p, u, rfl, h4 rfl, h1, h2, h3⟩⟩
  · exact hw.elim
def wsRetN  : WS := fun q ρ => q.rt (.val .non) ρ
theorem sd_retN : SD X E (.Return none pos) wsRetN := ⟨_, ps_retN, fun q ρ hw F σ H S D rp o => o.rt _ ρ V.non σ H S hw rp (show Dat S .non .non from .n)⟩
def wIfS (wt : WT) (ws wu : WS) : WS := fun q ρ => wt q.ex ρ fun b => Br b (ws q ρ) (wu q ρ) ⟨⟩ ⟨⟩
theorem sd_if {c : Expr} {p1 p2 : List Stmt} (hc : TD X E c wt) (ha : SDs X E p1 ws) (hb : SDs X E p2 wu) : SD X E (.If c p1 p2 pos) (wIfS wt ws wu) := by
  obtain ⟨t, p, s⟩ := hc.ex
  obtain ⟨ta, pa, sa⟩ := ha.ex
  obtain ⟨tb, pb, sb⟩ := hb.ex
  refine ⟨_, ps_if p pa pb, fun q ρ hw F σ H S D rp o => ?_⟩
  refine s q.ex ρ _ hw F σ H S _ rp (o.exOk rp) fun b H1 S1 q1 g1 => ?_
  cases b with
  | true => exact iteT (sa q ρ q1 F σ H1 S1 D (rp.grow g1) o)
  | false => exact iteF (sb q ρ q1 F σ H1 S1 D (rp.grow g1) o)

/-! ### stores -/
def locX (X : Cx) (x : Str) : Prop := Loc X.env.scope x ∧ (X.fn x = true ∨ X.env.scope.names.lookup x = some .local)
def wsSet (i : Nat) (w : WE) : WS := fun q ρ => w q.ex ρ fun d => q.nx (ρ.set i (.fz d))
theorem sd_set (i : Nat) {x : Str} {p : Pos} (hN : X.N.Nodup) (he : ED X E e w) (hi : X.N[i]? = some x := by rfl) (hx : Loc X.env.scope x := by first | exact Or.inl rfl | exact Or.inr rfl) (hs : swapsWith e (some (.Name x p)) pos.line X.env = pure false := by rfl)
    (hf : X.fn x = true ∨ X.env.scope.names.lookup x = some .local := by first | exact .inl rfl | exact .inr rfl) : SD X E (.Assign [.Name x p] e pos) (wsSet i w) := by
  obtain ⟨t, pe, s⟩ := he.ex
  refine ⟨_, ps_set hN hi hx pe hs hf, fun q ρ hw F σ H S D rp o => ?_⟩
  exact s q.ex ρ _ hw F σ H S _ rp (o.exOk rp) fun d v H1 S1 q1 g1 h1 => o.nx _ _ H1 S1 q1 ((rp.grow g1).set h1)
theorem own_ne {F : Fr} {ρ : Ev} {σ : L2.St} {H S : Hp} (rp : Rep F ρ σ H S) {p : Addr} (h0 : H p = none) (j : Nat) (m : Bool) (c : Cn) (h : ρ[j]? = some (.own m c)) : σ[j]? ≠ some (some (.ref p)) := fun z => by
  obtain ⟨p', o, e, _, h2, _⟩ := rp.own h
  rw [e] at z
  cases z
  rw [h0] at h2
  cases h2
def wsSetF (i : Nat) (wl : WL) : WS := fun q ρ => wl q.ex ρ fun xs => q.nx (ρ.set i (.own false (.lst xs)))
theorem sd_setF (i : Nat) {x : Str} {p : Pos} (hN : X.N.Nodup) (he : DF X E e wl) (hi : X.N[i]? = some x := by rfl) (hx : Loc X.env.scope x := by first | exact Or.inl rfl | exact Or.inr rfl) (hs : swapsWith e (some (.Name x p)) pos.line X.env = pure false := by rfl)
    (hf : X.fn x = true ∨ X.env.scope.names.lookup x = some .local := by first | exact .inl rfl | exact .inr rfl) : SD X E (.Assign [.Name x p] e pos) (wsSetF i wl) := by
  obtain ⟨t, pe, s⟩ := he.ex
  refine ⟨_, ps_set hN hi hx pe hs hf, fun q ρ hw F σ H S D rp o => ?_⟩
  exact s q.ex ρ _ hw F σ H S _ rp (o.exOk rp) fun xs p vs H1 S1 q1 g1 h0 h1 h2 hd => o.nx _ _ H1 S1 q1 ((rp.grow g1).setOwn h1 h2 ⟨vs, rfl, hd⟩ (fg_free rp.fg h0) (own_ne rp h0))
/-- name = [.. for ..] -/
theorem sd_setLc (i : Nat) {y : Str} {py spos : Pos} {elt tg iter : Expr} {scope : Scope} {own : List (Str × Nat)} {vs : List Nat} {wi : WL} {g : WG} {is : List Nat} (hc : X.calm = true) (hN : X.N.Nodup) (hi : ID X E tg iter wi) (ok : BlkOk X.N X.env.scope scope own)
    (hg : ∀ (s : Shared) (H : Hp) (C : Addr) (cl : List (Str × Addr)) (fp : List Addr), GD (X.blk s H scope (compEnvC scope cl C X.env) fp) tg is g)
    (he : ∀ (s : Shared) (H : Hp) (C : Addr) (cl : List (Str × Addr)) (fp : List Addr), ED (X.blk s H scope (compEnvC scope cl C X.env) fp) E0 elt we)
    (hy : X.N[i]? = some y := by rfl) (hyl : X.env.scope.names.lookup y = some .local := by rfl) (hsw : swapsWith (.ListComp elt [⟨tg, iter, [], 0⟩] scope pos) (some (.Name y py)) spos.line X.env = pure true := by exact sw_true rfl rfl rfl (by decide +kernel))
    (hvs : own.map (·.2) = vs := by rfl) (his : ∀ i ∈ is, i ∈ vs := by decide) (hs : ∀ x, foldedSetIterable iter X.env x = pure x := by intro _; rfl) :
    SD X E (.Assign [.Name y py] (.ListComp elt [⟨tg, iter, [], 0⟩] scope pos) spos) (wsSetF i (wLc wi g wtYes we vs)) := by
  subst hvs
  obtain ⟨ti, pti, s⟩ := hi.ex
  refine ⟨_, ps_setLc (i := i) (g := canG g is) (tt := tYes) (te := canE X.mg E0 we) hc hN hy hyl hsw pti ok (fun s H C cl fp => (hg s H C cl fp).can) (fun _ _ _ _ _ => pts_nil) (fun s H C cl fp => (he s H C cl fp).can) hs, fun q ρ hw F σ H S D rp o => ?_⟩
  refine s q.ex ρ _ hw F σ H S _ rp (o.exOk rp) fun ds J H1 S1 q1 g1 hJ D0 hD => ?_
  exact lc_sound (Q' := fun x H1 => gName i x σ H1 D.nx) his rp g1 hJ hD q1 (fun ρ2 σ2 H S R R' h r k => k true H S h (.refl r.sh)) fun xs vs H' S' q' g h0 h1 h2 hd =>
    o.nx _ _ H' S' q' ((rp.grow g).setOwn h1 h2 ⟨vs, rfl, hd⟩ (fg_free rp.fg h0) (own_ne rp h0))
theorem sd_setLcIf (i : Nat) {y : Str} {py spos : Pos} {elt tg iter c : Expr} {scope : Scope} {own : List (Str × Nat)} {vs : List Nat} {wi : WL} {g : WG} {is : List Nat} (hc : X.calm = true) (hN : X.N.Nodup) (hi : ID X E tg iter wi) (ok : BlkOk X.N X.env.scope scope own)
    (hg : ∀ (s : Shared) (H : Hp) (C : Addr) (cl : List (Str × Addr)) (fp : List Addr), GD (X.blk s H scope (compEnvC scope cl C X.env) fp) tg is g)
    (ht : ∀ (s : Shared) (H : Hp) (C : Addr) (cl : List (Str × Addr)) (fp : List Addr), TD (X.blk s H scope (compEnvC scope cl C X.env) fp) E0 c wt)
    (he : ∀ (s : Shared) (H : Hp) (C : Addr) (cl : List (Str × Addr)) (fp : List Addr), ED (X.blk s H scope (compEnvC scope cl C X.env) fp) E0 elt we)
    (hy : X.N[i]? = some y := by rfl) (hyl : X.env.scope.names.lookup y = some .local := by rfl) (hsw : swapsWith (.ListComp elt [⟨tg, iter, [c], 0⟩] scope pos) (some (.Name y py)) spos.line X.env = pure true := by exact sw_true rfl rfl rfl (by decide +kernel))
    (hvs : own.map (·.2) = vs := by rfl) (his : ∀ i ∈ is, i ∈ vs := by decide) (hs : ∀ x, foldedSetIterable iter X.env x = pure x := by intro _; rfl) :
    SD X E (.Assign [.Name y py] (.ListComp elt [⟨tg, iter, [c], 0⟩] scope pos) spos) (wsSetF i (wLc wi g wt we vs)) := by
  subst hvs
  obtain ⟨ti, pti, s⟩ := hi.ex
  refine ⟨_, ps_setLc (i := i) (g := canG g is) (tt := canT X.mg E0 wt) (te := canE X.mg E0 we) hc hN hy hyl hsw pti ok (fun s H C cl fp => (hg s H C cl fp).can) (fun s H C cl fp => pts_one (ht s H C cl fp).can) (fun s H C cl fp => (he s H C cl fp).can) hs, fun q ρ hw F σ H S D rp o => ?_⟩
  refine s q.ex ρ _ hw F σ H S _ rp (o.exOk rp) fun ds J H1 S1 q1 g1 hJ D0 hD => ?_
  exact lc_sound (Q' := fun x H1 => gName i x σ H1 D.nx) his rp g1 hJ hD q1 (fun ρ2 σ2 H S R R' h r k => ⟨X0, ρ2, R, F, S, h, r, exOk0, k⟩) fun xs vs H' S' q' g h0 h1 h2 hd =>
    o.nx _ _ H' S' q' ((rp.grow g).setOwn h1 h2 ⟨vs, rfl, hd⟩ (fg_free rp.fg h0) (own_ne rp h0))
/-- a target of several names -/
def wsAsg (w : WE) (g : WG) : WS := fun q ρ => w q.ex ρ fun d => g d ρ q.nx
theorem sd_asg {tg : Expr} {is : List Nat} {g : WG} (he : ED X E e w) (hg : GD X tg is g) (hs : swapsWithSole [tg] e pos.line X.env = pure false := by rfl) (hw : swappedStores [tg] e X.env = pure none := by rfl)
    (h1 : (assignEach [tg] X.env).map (·.2) = [assign tg X.env] := by rfl) : SD X E (.Assign [tg] e pos) (wsAsg w g) := by
  obtain ⟨t, pe, s⟩ := he.ex
  obtain ⟨tg, pg, sg⟩ := hg.ex
  refine ⟨_, ps_asg pe pg hs hw h1, fun q ρ hw F σ H S D rp o => ?_⟩
  refine s q.ex ρ _ hw F σ H S _ rp (o.exOk rp) fun d v H1 S1 q1 g1 h1 => ?_
  exact sg d ρ _ q1 F σ H1 S1 v _ (rp.grow g1) h1 fun ρ' σ' q2 r2 _ => o.nx _ _ H1 S1 q2 r2
/-- a, b = x, y -/
def wsPar (i j : Nat) (wa wb : WE) : WS := fun q ρ => wa q.ex ρ fun d => wb q.ex ρ fun d' => q.nx ((ρ.set i (.fz d)).set j (.fz d'))
theorem sd_par (i j : Nat) {x y : Str} {wb : WE} {px py pt : Pos} {kt k2 pt2} (hc : X.calm = true) (hN : X.N.Nodup) (ha : ED X E a wa) (hb : ED X E b wb) (hi : X.N[i]? = some x := by rfl) (hj : X.N[j]? = some y := by rfl) (hij : i ≠ j := by decide)
    (hx : X.env.scope.names.lookup x = some .local := by rfl) (hy : X.env.scope.names.lookup y = some .local := by rfl)
    (hw : swappedStores [.Tuple [.Name x px, .Name y py] kt pt] (.Tuple [a, b] k2 pt2) X.env = pure (some [x, y]) := by rfl)
    (hs : swapsWithSole [.Tuple [.Name x px, .Name y py] kt pt] (.Tuple [a, b] k2 pt2) pos.line X.env = pure false := by rfl)
    (he2 : starEach (b :: []) X.env = (false, eval b X.env) :: starEach [] X.env := by rfl) (he : starEach (a :: [b]) X.env = (false, eval a X.env) :: starEach [b] X.env := by rfl) :
    SD X E (.Assign [.Tuple [.Name x px, .Name y py] kt pt] (.Tuple [a, b] k2 pt2) pos) (wsPar i j wa wb) := by
  obtain ⟨t, pt, s⟩ := (ad_cons ha (ad_cons hb ad_nil he2) he).ex
  refine ⟨_, ps_par hc hN hi hj hij hx hy pt hw hs, fun q ρ hw F σ H S D rp o => ?_⟩
  refine s q.ex ρ (fun ds => match ds with
    | [d, d'] => q.nx ((ρ.set i (.fz d)).set j (.fz d'))
    | _ => False) hw F σ H S _ rp (o.exOk rp) fun ds vs H1 S1 q1 g1 h1 => ?_
  split at q1
  · unfold Dats Dats Dats at h1
    obtain ⟨v, _, rfl, d1, v', _, rfl, d2, rfl⟩ := h1
    exact ⟨v, v', rfl, o.nx _ _ H1 S1 q1 (((rp.grow g1).set d1).set d2)⟩
  · exact q1.elim
/-- name op= e -/
structure PipD (X : Cx) (op : Operator) (g : D → D → (D → Prop) → Prop) : Prop where
  ex : ∃ r : TIp, PIp X op r ∧ ∀ (d e : D) (Q : D → Prop), g d e Q → ∀ (H S : Hp) (u v : V) (Q' : VK), Same S H → Dat S d u → Dat S e v → (∀ z y, Q z → Dat S z y → Q' y H) → r u v H Q'
theorem pipAdd : PipD X .Add (gInt0 fun i j => i + j) := by
  refine ⟨_, ip_add, fun d e Q h H S u v Q' sh hd he k => ?_⟩
  unfold gInt0 at h
  split at h
  · unfold Dat at hd he
    exact ⟨_, _, hd, he, k _ _ h .i⟩
  · exact h.elim
theorem pipMul : PipD X .Mult (gInt CMulW fun i j => i * j) := by
  refine ⟨rI CMulW fun i j => .int (i * j), ?_, fun d e Q h H S u v Q' sh hd he k => ?_⟩
  · intro pins s σ H x y v u Q I r1 r2 h
    have o : OpR X (inplaceOp .Mult) (rI CMulW fun i j => .int (i * j)) := opI fun _ _ _ _ _ _ _ hc q => imul_int q hc.ok
    exact o pins s σ H x y v u Q I r1 r2 h
  · unfold gInt at h
    split at h
    · unfold Dat at hd he
      exact ⟨_, _, hd, he, h.1, k _ _ h.2 .i⟩
    · exact h.elim
def wsAug (i : Nat) (g : D → D → (D → Prop) → Prop) (w : WE) : WS := fun q ρ => match ρ[i]? with
  | some (.fz d) => w q.ex ρ fun d' => g d d' fun z => q.nx (ρ.set i (.fz z))
  | _ => False
theorem sd_aug (i : Nat) {x : Str} {p : Pos} {op : Operator} {g : D → D → (D → Prop) → Prop} (hN : X.N.Nodup) (ho : PipD X op g) (he : ED X E e w) (hi : X.N[i]? = some x := by rfl) (hx : Loc X.env.scope x := by first | exact Or.inl rfl | exact Or.inr rfl)
    (hf : X.fn x = true ∨ X.env.scope.names.lookup x = some .local := by first | exact .inl rfl | exact .inr rfl) : SD X E (.AugAssign (.Name x p) op e pos) (wsAug i g w) := by
  obtain ⟨t, pe, s⟩ := he.ex
  obtain ⟨r, pi, si⟩ := ho.ex
  refine ⟨_, ps_aug hN hi hx pe pi hf, fun q ρ hw F σ H S D rp o => ?_⟩
  unfold wsAug at hw
  split at hw
  · rename_i d hi
    obtain ⟨v, e, hd⟩ := rp.fz hi
    refine ⟨v, e, s q.ex ρ _ hw F σ H S _ rp (o.exOk rp) fun d' v' H1 S1 q1 g1 h1 => ?_⟩
    exact si d d' _ q1 H1 S1 v v' _ g1.sh (Dat.mono g1.ss _ _ hd) h1 fun z y q2 h2 => o.nx _ _ H1 S1 q2 ((rp.grow g1).set h2)
  · exact hw.elim

/-! ### methods that change a slot's own list -/
structure MutD (X : Cx) (id : String) (g : List D → List D → (List D → Prop) → Prop) : Prop where
  ex : ∃ r : V → List V → Hp → VK → Prop, MtR X id r ∧ ∀ (xs ds : List D) (Q : List D → Prop), g xs ds Q → ∀ (H S : Hp) (l : Addr) (us vs : List V) (Q' : VK), Same S H → H l = some (.lst us) → Dats S xs us → Dats S ds vs →
    (∀ ys ws v, Q ys → Dats S ys ws → Q' v (upd H l (.lst ws))) → r (.ref l) vs H Q'
def gApp : List D → List D → (List D → Prop) → Prop
  | xs, [d], Q => xs.length < sizeLine ∧ Q (xs ++ [d])
  | _, _, _ => False
theorem dats1 {S : Hp} {d : D} {vs : List V} (h : Dats S [d] vs) : ∃ v, vs = [v] ∧ Dat S d v := by
  unfold Dats Dats at h
  obtain ⟨v, _, rfl, h, rfl⟩ := h
  exact ⟨v, rfl, h⟩
theorem mApp : MutD X "list.append" gApp := by
  refine ⟨_, mt_append, fun xs ds Q h H S l us vs Q' sh hl hu hd k => ?_⟩
  unfold gApp at h
  split at h
  · obtain ⟨v, rfl, hv⟩ := dats1 hd
    exact ⟨l, us, v, rfl, rfl, hl, by rw [hu.len]; exact h.1, k _ _ _ h.2 (hu.app (.one hv))⟩
  · exact h.elim
def gExt : List D → List D → (List D → Prop) → Prop
  | xs, [.lst ys], Q => xs.length + ys.length ≤ sizeLine ∧ Q (xs ++ ys)
  | _, _, _ => False
theorem mExt : MutD X "list.extend" gExt := by
  refine ⟨_, mt_extend, fun xs ds Q h H S l us vs Q' sh hl hu hd k => ?_⟩
  unfold gExt at h
  split at h
  · obtain ⟨v, rfl, hv⟩ := dats1 hd
    unfold Dat at hv
    obtain ⟨b, ws, rfl, r, z⟩ := hv
    exact ⟨l, b, us, ws, rfl, rfl, hl, sh _ _ r, by rw [hu.len, z.len]; exact h.1, k _ _ _ h.2 (hu.app z)⟩
  · exact h.elim
def gPop0 : List D → List D → (List D → Prop) → Prop
  | xs, [], Q => xs ≠ [] ∧ Q xs.dropLast
  | _, _, _ => False
theorem mPop : MutD X "list.pop" gPop0 := by
  refine ⟨_, mt_pop, fun xs ds Q h H S l us vs Q' sh hl hu hd k => ?_⟩
  unfold gPop0 at h
  split at h
  · unfold Dats at hd
    subst hd
    have hlen := hu.len
    have hpos : 0 < us.length := by
      rw [hlen]
      exact List.length_pos_iff.mpr h.1
    exact ⟨l, us, us[us.length - 1], rfl, rfl, hl, List.getElem?_eq_getElem (by omega), k _ _ _ h.2 hu.dropLast⟩
  · exact h.elim
def gRev : List D → List D → (List D → Prop) → Prop
  | xs, [], Q => Q xs.reverse
  | _, _, _ => False
theorem mRev : MutD X "list.reverse" gRev := by
  refine ⟨_, mt_reverse, fun xs ds Q h H S l us vs Q' sh hl hu hd k => ?_⟩
  unfold gRev at h
  split at h
  · unfold Dats at hd
    subst hd
    exact ⟨l, us, rfl, rfl, hl, k _ _ _ h hu.rev⟩
  · exact h.elim
variable {T name id : String} {es : List Expr} {apos mpos : Pos} {p : Pos} {x : Str}
def wMut (i : Nat) (g : List D → List D → (List D → Prop) → Prop) (wl : WL) : WS := fun q ρ => match ρ[i]? with
  | some (.own m (.lst xs)) => wl q.ex ρ fun ds => g xs ds fun ys => q.nx (ρ.set i (.own m (.lst ys)))
  | _ => False
theorem mut_sound {i : Nat} {g : List D → List D → (List D → Prop) → Prop} {r : V → List V → Hp → VK → Prop} {t : TA}
    (so : ∀ (xs ds : List D) (Q : List D → Prop), g xs ds Q → ∀ (H S : Hp) (l : Addr) (us vs : List V) (Q' : VK), Same S H → H l = some (.lst us) → Dats S xs us → Dats S ds vs →
      (∀ ys ws v, Q ys → Dats S ys ws → Q' v (upd H l (.lst ws))) → r (.ref l) vs H Q')
    (s : ∀ (x : XS) (ρ : Ev) (Q : List D → Prop), wl x ρ Q → ∀ (F : Fr) (σ : L2.St) (H S : Hp) (Q' : List V → Hp → Prop), Rep F ρ σ H S → ExOk X.mg E x H S →
      (∀ ds vs H' S', Q ds → Grow H S H' S' → Dats S' ds vs → Q' vs H') → t σ H Q')
    (q : DEnds) (ρ : Ev) (hw : wMut i g wl q ρ) (F : Fr) (σ : L2.St) (H S : Hp) (D : Ends) (rp : Rep F ρ σ H S) (o : EndsOk X.mg E F q D) : tDrop (tBM X.K "list" r (tVar i) t) D σ H := by
  unfold wMut at hw
  split at hw
  · rename_i m xs hi
    obtain ⟨l, u, e, h1, h2, ⟨us, rfl, h3⟩, _⟩ := rp.own hi
    refine ⟨.ref l, e, .inl ⟨rfl, _, .of h2⟩, ?_⟩
    refine s q.ex ρ _ hw F σ H S _ rp (o.exOk rp) fun ds vs H1 S1 q1 g1 hd => ?_
    refine so xs ds _ q1 H1 S1 l us vs _ g1.sh (g1.hh.lst h2) (Dats.mono g1.ss _ _ h3) hd fun ys ws v q2 hy => ?_
    exact o.nx _ _ _ S1 q2 ((rp.grow g1).put (o' := .lst ws) hi e ⟨ws, rfl, hy⟩)
  · exact hw.elim
theorem sd_mut (i : Nat) {g : List D → List D → (List D → Prop) → Prop} (hm : MutD X id g) (slot : Slot "list" name id) (hty : typeOf (.builtin id) = pure (.type "method_descriptor")) (ha : AD X E (e :: es) wl)
    (hN : X.N[i]? = some x := by rfl) (hv : Vis X.env.scope x := by first | exact Or.inl rfl | exact Or.inr (Or.inl rfl) | exact Or.inr (Or.inr rfl)) (hd : (x == ("__debug__" : Str)) = false := by decide) (hcd : (x == ("__classdict__" : Str)) = false := by decide)
    (hbase : attributeBase (.Name x p) name X.env (eval (.Name x p) X.env) = eval (.Name x p) X.env := by rfl)
    (hfew : ((backTo mpos (starEach (e :: es) X.env)).all (fun x => !x.1) && (backToKw mpos (keywordEach [] X.env)).all (fun x => x.1.isSome)
      && decide ((e :: es).length + ([] : List Keyword).length + (if ([] : List Keyword).isEmpty then 0 else 1) < 30)) = true := by rfl)
    (hline : (apos.endLine == mpos.line) = true := by rfl) (hst : starEach (e :: es) X.env = (false, eval e X.env) :: starEach es X.env := by rfl) (hplain : (backTo mpos (starEach es X.env)).any (·.1) = false := by rfl)
    (hs : swapsWith (.Call (.Attribute (.Name x p) name apos) (e :: es) [] mpos) none pos.line X.env = pure false := by rfl) :
    SD X E (.Expr (.Call (.Attribute (.Name x p) name apos) (e :: es) [] mpos) pos) (wMut i g wl) := by
  obtain ⟨r, mr, so⟩ := hm.ex
  obtain ⟨t, pt, s⟩ := ha.ex
  exact ⟨_, ps_expr (pe_bm PySem.F.plainAttrs_list slot hty mr (pe_var hN hv hd hcd) pt hbase hfew hline hst hplain) hs, mut_sound so s⟩
theorem sd_mut0 (i : Nat) {g : List D → List D → (List D → Prop) → Prop} (hm : MutD X id g) (slot : Slot "list" name id) (hty : typeOf (.builtin id) = pure (.type "method_descriptor"))
    (hN : X.N[i]? = some x := by rfl) (hv : Vis X.env.scope x := by first | exact Or.inl rfl | exact Or.inr (Or.inl rfl) | exact Or.inr (Or.inr rfl)) (hd : (x == ("__debug__" : Str)) = false := by decide) (hcd : (x == ("__classdict__" : Str)) = false := by decide)
    (hbase : attributeBase (.Name x p) name X.env (eval (.Name x p) X.env) = eval (.Name x p) X.env := by rfl) (hline : (apos.endLine == mpos.line) = true := by rfl)
    (hs : swapsWith (.Call (.Attribute (.Name x p) name apos) [] [] mpos) none pos.line X.env = pure false := by rfl) :
    SD X E (.Expr (.Call (.Attribute (.Name x p) name apos) [] [] mpos) pos) (wMut i g wNil) := by
  obtain ⟨r, mr, so⟩ := hm.ex
  refine ⟨_, ps_expr (pe_bm0 PySem.F.plainAttrs_list slot hty mr (pe_var hN hv hd hcd) hbase hline) hs, fun q ρ hw F σ H S D rp o => ?_⟩
  unfold wMut at hw
  split at hw
  · rename_i m xs hi
    obtain ⟨l, u, e, h1, h2, ⟨us, rfl, h3⟩, _⟩ := rp.own hi
    refine ⟨.ref l, e, .inl ⟨rfl, _, .of h2⟩, ?_⟩
    refine so xs [] _ hw H S l us [] _ rp.sh h2 h3 .nil fun ys ws v q2 hy => ?_
    exact o.nx _ _ _ S q2 (rp.put (o' := .lst ws) hi e ⟨ws, rfl, hy⟩)
  · exact hw.elim
/-- l[k] = e, l a slot's own list -/
def wsSetIx (i : Nat) (w wb : WE) : WS := fun q ρ => w q.ex ρ fun d => match ρ[i]? with
  | some (.own m (.lst xs)) => wb q.ex ρ fun k => match k with
    | .int k => ∃ j, ixN xs.length k = some j ∧ q.nx (ρ.set i (.own m (.lst (xs.set j d))))
    | _ => False
  | _ => False
theorem sd_setIx (i : Nat) {tpos : Pos} (he : ED X E e w) (hb : ED X E b wb) (hN : X.N[i]? = some x := by rfl) (hv : Vis X.env.scope x := by first | exact Or.inl rfl | exact Or.inr (Or.inl rfl) | exact Or.inr (Or.inr rfl)) (hd : (x == ("__debug__" : Str)) = false := by decide) (hcd : (x == ("__classdict__" : Str)) = false := by decide)
    (ha : ∀ v, assign (.Subscript (.Name x p) b tpos) X.env v = (do
      let ov ← holding [v] (eval (.Name x p) X.env)
      let iv ← holding [v, ov] (eval b X.env)
      standAt tpos
      holding [v, ov, iv] (setItem ov iv v)
      release [v, ov, iv] []) := by intro _; rfl) (hs : swapsWithSole [.Subscript (.Name x p) b tpos] e pos.line X.env = pure false := by rfl) (hw : swappedStores [.Subscript (.Name x p) b tpos] e X.env = pure none := by rfl)
    (h1 : (assignEach [.Subscript (.Name x p) b tpos] X.env).map (·.2) = [assign (.Subscript (.Name x p) b tpos) X.env] := by rfl) :
    SD X E (.Assign [.Subscript (.Name x p) b tpos] e pos) (wsSetIx i w wb) := by
  obtain ⟨t, pe, s⟩ := he.ex
  obtain ⟨tb, pb, sb⟩ := hb.ex
  refine ⟨_, ps_asg pe (pg_sub (pe_var hN hv hd hcd) pb set_list ha) hs hw h1, fun q ρ hw F σ H S D rp o => ?_⟩
  refine s q.ex ρ _ hw F σ H S _ rp (o.exOk rp) fun d v H1 S1 q1 g1 h1 => ?_
  split at q1
  · rename_i m xs hi
    have rp1 := rp.grow g1
    obtain ⟨l, u, e, z1, z2, ⟨us, rfl, z3⟩, _⟩ := rp1.own hi
    refine ⟨.ref l, e, sb q.ex ρ _ q1 F σ H1 S1 _ rp1 (o.exOk rp1) fun k kv H2 S2 q2 g2 h2 => ?_⟩
    cases k with
    | int k =>
      unfold Dat at h2
      subst h2
      obtain ⟨j, hj, q2⟩ := q2
      exact ⟨l, us, k, j, rfl, rfl, g2.hh.lst z2, by rw [z3.len]; exact hj, o.nx _ _ _ S2 q2 ((rp1.grow g2).put hi e ⟨_, rfl, (Dats.mono g2.ss _ _ z3).set j (Dat.mono g2.ss _ _ h1)⟩)⟩
    | _ => exact q2.elim
  · exact q1.elim

/-! ### loops -/
def loopL (g : WG) (wb : WS) (q : DEnds) : List D → Ev → Prop
  | [], ρ => q.nx ρ
  | d :: ds, ρ => g d ρ fun ρ1 => wb { q with nx := loopL g wb q ds, ct := loopL g wb q ds, bk := q.nx } ρ1
def wFor (wi : WL) (g : WG) (wb : WS) : WS := fun q ρ => wi q.ex ρ fun ds => loopL g wb q ds ρ
theorem fg_in {F : Fr} {H S S1 : Hp} (f : FGrow { F with S0 := S1 } H S) (ss : Same F.S0 S1) (nw : ∀ a, F.H0 a ≠ none → S1 a = F.S0 a) : FGrow F H S :=
  ⟨f.hh, f.al, ss.trans f.ss, f.sh, fun a h => (f.nw a h).trans (nw a h), f.ft, f.tb⟩
theorem rep_in {F : Fr} {ρ : Ev} {σ : L2.St} {H S S1 : Hp} (r : Rep { F with S0 := S1 } ρ σ H S) (ss : Same F.S0 S1) (nw : ∀ a, F.H0 a ≠ none → S1 a = F.S0 a) : Rep F ρ σ H S := by
  refine ⟨fg_in r.fg ss nw, r.len, fun i sl h => ?_, r.dist⟩
  have q := r.at' i sl h
  cases sl with
  | un => trivial
  | fz d => exact q
  | own m c => exact q
theorem rep_to {F : Fr} {ρ : Ev} {σ : L2.St} {H S : Hp} (r : Rep F ρ σ H S) : Rep { F with S0 := S } ρ σ H S := by
  refine ⟨⟨r.fg.hh, r.fg.al, .refl _, r.fg.sh, fun _ _ => rfl, r.fg.ft, r.fg.tb⟩, r.len, fun i sl h => ?_, r.dist⟩
  have q := r.at' i sl h
  cases sl with
  | un => trivial
  | fz d => exact q
  | own m c => exact q
theorem sd_for {tg iter : Expr} {is : List Nat} {g : WG} {wi : WL} {body : List Stmt} (xk : XOk X E) (hc : X.calm = true) (hi : ID X E tg iter wi) (hg : GD X tg is g) (hb : SDs X E body ws) (hs : ∀ x, foldedSetIterable iter X.env x = pure x := by intro _; rfl) :
    SD X E (.For tg iter body [] pos) (wFor wi g ws) := by
  obtain ⟨ti, pti, si⟩ := hi.ex
  obtain ⟨tg, pg, sg⟩ := hg.ex
  obtain ⟨tb, pb, sb⟩ := hb.ex
  refine ⟨_, ps_for xk.own hc pti pg pb hs, fun q ρ hw F σ H S D rp o => ?_⟩
  refine si q.ex ρ _ hw F σ H S _ rp (o.exOk rp) fun ds J H1 S1 q1 g1 hJ => ?_
  have rp1 := rp.grow g1
  have ss1 := rp1.fg.ss
  have nw1 := rp1.fg.nw
  let W : Nat → Nat → L2.St → Hp → Prop := fun i m σ H => m = ds.length - i ∧ i ≤ ds.length ∧ ∃ ρ S, Rep { F with S0 := S1 } ρ σ H S ∧ loopL g ws q (ds.drop i) ρ
  refine ⟨W, ⟨ds.length, by simp, Nat.zero_le _, ρ, S1, rep_to rp1, q1⟩, ?_⟩
  rintro i m σ2 H2 ⟨rfl, hi, ρ2, S2, r2, hl⟩
  rcases Nat.lt_or_ge i ds.length with hlt | hge
  · obtain ⟨d, hdi⟩ : ∃ d, ds[i]? = some d := ⟨_, List.getElem?_eq_getElem hlt⟩
    obtain ⟨go, yl⟩ := (hJ i H2 S2 r2.fg.ss r2.fg.sh).1 d hdi
    have hdrop : ds.drop i = d :: ds.drop (i + 1) := by
      rw [List.drop_eq_getElem_cons hlt]
      congr 1
      rw [List.getElem?_eq_getElem hlt] at hdi
      exact Option.some.inj hdi
    rw [hdrop] at hl
    refine .inr ⟨go, W (i + 1) (ds.length - (i + 1)), fun σ' H' h => ⟨_, by omega, h⟩, fun x H' y => ?_⟩
    obtain ⟨S', g', dx⟩ := yl x H' y
    refine sg d ρ2 _ hl { F with S0 := S1 } σ2 H' S' x _ (r2.grow g') dx fun ρ3 σ3 h3 r3 _ => ?_
    refine sb _ ρ3 h3 { F with S0 := S1 } σ3 H' S' _ r3 ⟨fun ρ4 σ4 H4 S4 q4 r4 => ⟨rfl, hlt, ρ4, S4, r4, q4⟩, fun r ρ4 v σ4 H4 S4 q4 r4 p4 => o.rt r ρ4 v σ4 H4 S4 q4 (rep_in r4 ss1 nw1) p4,
      fun ρ4 σ4 H4 S4 q4 r4 => o.nx ρ4 σ4 H4 S4 q4 (rep_in r4 ss1 nw1), fun ρ4 σ4 H4 S4 q4 r4 => ⟨rfl, hlt, ρ4, S4, r4, q4⟩, fun n C H4 S4 h1 h2 h3 => o.ex n C H4 S4 h1 h2 (fg_in h3 ss1 nw1)⟩
  · have e : i = ds.length := by omega
    subst e
    rw [List.drop_length] at hl
    exact .inl ⟨(hJ _ H2 S2 r2.fg.ss r2.fg.sh).2 (Nat.le_refl _), o.nx ρ2 σ2 H2 S2 hl (rep_in r2 ss1 nw1)⟩
/-- while, by a word and a measure -/
def wWhile (wt : WT) (wb : WS) : WS := fun q ρ => ∃ I : Nat → Ev → Prop, (∃ m, I m ρ) ∧ ∀ m ρ, I m ρ → wt q.ex ρ fun b => Br b (wb { q with nx := fun ρ' => ∃ m', m' < m ∧ I m' ρ', ct := fun ρ' => ∃ m', m' < m ∧ I m' ρ', bk := q.nx } ρ) (q.nx ρ) ⟨⟩ ⟨⟩
theorem sd_while {c : Expr} {body : List Stmt} (xk : XOk X E) (hc : TD X E c wt) (hb : SDs X E body ws) : SD X E (.While c body [] pos) (wWhile wt ws) := by
  obtain ⟨t, p, s⟩ := hc.ex
  obtain ⟨tb, pb, sb⟩ := hb.ex
  refine ⟨_, ps_while xk.own p pb, fun q ρ hw F σ H S D rp o => ?_⟩
  obtain ⟨I, ⟨m0, h0⟩, turn⟩ := hw
  refine ⟨fun m σ H => ∃ ρ S, Rep F ρ σ H S ∧ I m ρ, ⟨m0, ρ, S, rp, h0⟩, ?_⟩
  rintro m σ2 H2 ⟨ρ2, S2, r2, h2⟩
  refine s q.ex ρ2 _ (turn m ρ2 h2) F σ2 H2 S2 _ r2 (o.exOk r2) fun b H3 S3 q3 g3 => ?_
  cases b with
  | true =>
    refine iteT ⟨fun σ' H' => ∃ m', m' < m ∧ ∃ ρ S, Rep F ρ σ' H' S ∧ I m' ρ, fun σ' H' h => h, ?_⟩
    exact sb _ ρ2 q3 F σ2 H3 S3 _ (r2.grow g3) ⟨fun ρ4 σ4 H4 S4 ⟨m', hm, q4⟩ r4 => ⟨m', hm, ρ4, S4, r4, q4⟩, o.rt, o.nx, fun ρ4 σ4 H4 S4 ⟨m', hm, q4⟩ r4 => ⟨m', hm, ρ4, S4, r4, q4⟩, o.ex⟩
  | false => exact iteF (o.nx ρ2 σ2 H3 S3 q3 (r2.grow g3))

/-! ### raise X('..') -/
structure ExcC (K : PySem.W.Frag) (mg : Str → Option Value) (n : Str) (C : Addr) : Prop where
  g : mg n = some (.ref C)
  x : PySem.W.excIn K C [.type "ValueError", .type "Exception", .type "BaseException", .type "object"] "ValueError.__new__" = true
  k : PySem.W.keepIn K (.ref C) = true
  b : PySem.W.subIn K (.ref C) (.type "BaseException") = some true
  t : PySem.W.typeIn K (.ref C) = some (.type "type")
def wsRaise (n : Str) : WS := fun q _ => q.ex n
theorem sd_raise {n m : Str} {C : Addr} {j : Nat} {p1 p2 p3 : Pos} (xk : XOk X E) (hc : X.calm = true) (c : ExcC X.K X.mg n C) (hg : Gl X n) (hdb : (n == ("__debug__" : Str)) = false := by decide) :
    SD X E (.Raise (some (.Call (.Name n p1) [.Constant (.str m) j p2] [] p3)) none pos) (wsRaise n) :=
  ⟨_, L2N.ps_raise hc xk.take (L2N.pmk_own PySem.F.excBase_ValueError c.x c.g c.k (raises_own c.b c.t) hg hdb), fun q ρ hw F σ H S D rp o => o.ex n C H S hw c.g rp.fg⟩
end

/-! ### a def by its body -/
def startE (n : Nat) (ds : List D) : Ev := ds.map .fz ++ List.replicate (n - ds.length) .un
theorem rep_start {H S : Hp} {N : List Str} {ds : List D} {vs : List V} (sh : Same S H) (tb : Tbq S H) (h : Dats S ds vs) (hl : ds.length ≤ N.length) : Rep { H0 := H, S0 := S, M := fun _ => False } (startE N.length ds) (L2.start N vs) H S := by
  have hlen := h.len
  refine ⟨⟨fun _ _ _ e _ => e, fun _ e => e, .refl _, sh, fun _ _ => rfl, fun _ _ _ h => h, tb⟩, ?_, fun i sl e => ?_, fun i j m m' c c' _ e _ => ?_⟩
  · unfold L2.start startE
    simp only [List.length_append, List.length_map, List.length_replicate]
    omega
  · unfold startE at e
    rcases Nat.lt_or_ge i ds.length with hi | hi
    · rw [List.getElem?_append_left (by simpa using hi), List.getElem?_map] at e
      cases q : ds[i]? with
      | none => rw [q] at e; cases e
      | some d =>
        rw [q] at e
        cases e
        obtain ⟨v, hv, hz⟩ := h.get q
        refine ⟨v, ?_, hz⟩
        unfold L2.start
        rw [List.getElem?_append_left (by rw [List.length_map, hlen]; exact hi), List.getElem?_map, hv]
        rfl
    · rw [List.getElem?_append_right (by simpa using hi), List.getElem?_replicate] at e
      split at e
      · cases e
        trivial
      · cases e
  · unfold startE at e
    rcases Nat.lt_or_ge i ds.length with hi | hi
    · rw [List.getElem?_append_left (by simpa using hi), List.getElem?_map] at e
      cases q : ds[i]? with
      | none => rw [q] at e; cases e
      | some d => rw [q] at e; cases e
    · rw [List.getElem?_append_right (by simpa using hi), List.getElem?_replicate] at e
      split at e
      · cases e
      · cases e
section
variable {P : Program} {w : World} {K : PySem.W.Frag} {mg : Str → Option Value} {base : Heap}
def endsOf (R : Rt → Prop) (x : XS) : DEnds := { nx := fun _ => R (.val .non), rt := fun r _ => R r, ex := x }
/-- the context of a def's body -/
abbrev cxF (P : Program) (w : World) (K : PySem.W.Frag) (mg : Str → Option Value) (base : Heap) (N : List Str) (qual : Str) (sc : Scope) (f : Addr) (cdv : Value) (A : Around) (outer : List Env) (s : Shared) (H : Hp) (E : XK) : Cx :=
  cxOf (L2N.CX P w) P w K mg base N qual sc f cdv A outer s H E
theorem okN {x qual : Str} {st : Stmt} {f : Addr} {fd : FuncData} {N ps : List Str} {k : Nat} {sp : Sp} (F : Fun K x qual st f fd) (S : FnScope N ps (defScope st)) (len : ∀ vs H Q E, sp vs H Q E → vs.length = ps.length)
    (hb : ∀ (cdv : Value) (A : Around) (outer : List Env) (s : Shared) (H : Hp) (vs : List V) (Q : VK) (E : XK), Room k (A.deeper (envOfC qual (defScope st) s.heap.objs.size f cdv)) → sp vs H Q E →
      ∃ t, PSs (cxF P w K mg base N qual (defScope st) f cdv A outer s H E) (defBody st) t ∧ t { nx := fun _ H' => Q .non H', rt := Q } (L2.start N vs) H) : FnOk P w K mg base (L2N.CX P w) (k + 1) f fd ps sp := by
  obtain ⟨_, _, _, _, _, _, cdv, _, _, rfl, lk, hc⟩ := F.ex
  exact fn_of lk hc S len fun A outer s H vs Q E => hb cdv A outer s H vs Q E
theorem xk_fn {N : List Str} {qual : Str} {sc : Scope} {f : Addr} {cdv : Value} {A : Around} {outer : List Env} {s : Shared} {H : Hp} {E : XK} : XOk (cxF P w K mg base N qual sc f cdv A outer s H E) E := by
  have tk : L2N.Takes (cxF P w K mg base N qual sc f cdv A outer s H E) (fun cls d _ H => E cls d H) := L2N.takes_of rfl rfl rfl rfl
  exact ⟨L2N.passes_call tk fun _ _ _ _ h => h, tk, passes_of rfl⟩
theorem fn_ok {x qual : Str} {st : Stmt} {f : Addr} {fd : FuncData} {N ps : List Str} {k : Nat} {sp : Spec} (F : Fun K x qual st f fd) (S : FnScope N ps (defScope st)) (len : ∀ ds x R, sp ds x R → ds.length = ps.length)
    (hbody : ∀ (cdv : Value) (A : Around) (outer : List Env) (s : Shared) (H : Hp) (E : XK), Room k (A.deeper (envOfC qual (defScope st) s.heap.objs.size f cdv)) → XOk (cxF P w K mg base N qual (defScope st) f cdv A outer s H E) E →
      ∃ ws, SDs (cxF P w K mg base N qual (defScope st) f cdv A outer s H E) E (defBody st) ws ∧ ∀ ds x R, sp ds x R → ws (endsOf R x) (startE N.length ds)) :
    FnOk P w K mg base (L2N.CX P w) (k + 1) f fd ps (spOf mg sp) := by
  have hpl : ps.length ≤ N.length := by
    have := congrArg List.length S.pre
    rw [List.length_take] at this
    omega
  refine okN F S (fun vs H Q E h => ?_) (fun cdv A outer s H vs Q E hr h => ?_)
  · obtain ⟨ds, S, x, R, _, hd, hs, _⟩ := h
    rw [hd.len]
    exact len ds x R hs
  · obtain ⟨ds, S0, x, R, ⟨sh, tb⟩, hd, hs, k1, k2⟩ := h
    obtain ⟨ws, sd, pure⟩ := hbody cdv A outer s H E hr xk_fn
    obtain ⟨t, pt, so⟩ := sd.ex
    have hl : ds.length ≤ N.length := by rw [len ds x R hs]; exact hpl
    have gr : ∀ {H' S' : Hp}, FGrow { H0 := H, S0 := S0, M := fun _ => False } H' S' → Grow H S0 H' S' := fun f => ⟨⟨fun a o e n => f.hh a o (fun z => z) e n, f.al, f.ft⟩, f.ss, f.sh, f.nw⟩
    refine ⟨t, pt, so _ _ (pure ds x R hs) _ _ H S0 _ (rep_start sh tb hd hl) ⟨fun ρ σ H' S' q r => k1 _ _ H' S' q (gr r.fg) (show Dat S' .non .non from .n), fun r ρ v σ H' S' q rp p => k1 r v H' S' q (gr rp.fg) p, fun _ _ _ _ z => z.elim, fun _ _ _ _ z => z.elim, fun n C H' S' h1 h2 h3 => k2 n C H' S' h1 h2 (gr h3)⟩⟩
end
end NL

namespace NL
open PySem PySem.Spec L2
open PyProof.Rows hiding St
variable [KC]

/-! ### a def that changes the list handed in first -/
structure GrowM (p : Addr) (H S H' S' : Hp) : Prop where
  hh : ∀ a o, a ≠ p → H a = some o → (∀ ps, o ≠ .tbl ps) → H' a = some o
  ne : ∀ a, H a ≠ none → H' a ≠ none
  tab : ∀ P q, (P, q) ∈ KC.T → LamX.TabS H P q → LamX.TabS H' P q
  ss : Same S S'
  sh : Same S' H'
  nw : ∀ a, H a ≠ none → S' a = S a
theorem Rep.putM {F : Fr} {ρ : Ev} {σ : L2.St} {H S H' S' : Hp} {i : Nat} {m : Bool} {c c' : Cn} {p : Addr} {o' : HO} (r : Rep F ρ σ H S) (h : ρ[i]? = some (.own m c)) (hp : σ[i]? = some (some (.ref p))) (g : GrowM p H S H' S') (hH : H' p = some o') (hc : CnOk S' c' o') :
    Rep F (ρ.set i (.own m c')) σ H' S' := by
  obtain ⟨p', o1, e1, e2, e3, e4, e5, e6⟩ := r.own h
  have : p' = p := by
    rw [e1] at hp
    cases hp
    rfl
  subst this
  have hl : i < ρ.length := by
    rcases Nat.lt_or_ge i ρ.length with q | q
    · exact q
    · rw [List.getElem?_eq_none q] at h
      cases h
  have keep := g.ne
  refine ⟨⟨fun a u hm ha nt => ?_, fun a ha => keep a (r.fg.al a ha), r.fg.ss.trans g.ss, g.sh, fun a ha => (g.nw a (r.fg.al a ha)).trans (r.fg.nw a ha), fun P q m h => g.tab P q m (r.fg.ft P q m h), ⟨fun q h => g.tab _ _ h (r.fg.tb.1 q h), fun q h => (g.nw q.1 (tab_ne (r.fg.tb.1 q h))).trans (r.fg.tb.2 q h)⟩⟩, by simp [r.len], fun j sl e => ?_, fun j k m1 m2 c1 c2 n q1 q2 => ?_⟩
  · have ne : a ≠ p' := fun z => by
      subst z
      cases m with
      | true => exact hm (e5 rfl)
      | false => rw [e6 rfl] at ha; cases ha
    exact g.hh a u ne (r.fg.hh a u hm ha nt) nt
  · by_cases z : i = j
    · subst z
      rw [List.getElem?_set_self hl] at e
      cases e
      exact ⟨p', o', hp, by rw [g.nw p' (by rw [e3]; intro z; cases z)]; exact e2, hH, hc, e5, e6⟩
    · rw [List.getElem?_set_ne z] at e
      have q := r.at' j sl e
      cases sl with
      | un => trivial
      | fz d =>
        obtain ⟨v, f1, f2⟩ := q
        exact ⟨v, f1, Dat.mono g.ss d v f2⟩
      | own m3 c3 =>
        obtain ⟨p3, o3, f1, f2, f3, f4, f5⟩ := q
        have ne : p3 ≠ p' := fun z3 => r.dist i j m m3 c c3 z h e (by rw [hp, f1, z3])
        exact ⟨p3, o3, f1, by rw [g.nw p3 (by rw [f3]; intro z; cases z)]; exact f2, g.hh _ _ ne f3 f4.ntb.1, f4.mono g.ss, f5⟩
  · have conv : ∀ (l : Nat) (m4 : Bool) (c4 : Cn), (ρ.set i (.own m c'))[l]? = some (.own m4 c4) → ∃ m5 c5, ρ[l]? = some (.own m5 c5) := fun l m4 c4 q => by
      by_cases z : i = l
      · subst z
        exact ⟨m, c, h⟩
      · rw [List.getElem?_set_ne z] at q
        exact ⟨_, _, q⟩
    obtain ⟨_, _, w1⟩ := conv _ _ _ q1
    obtain ⟨_, _, w2⟩ := conv _ _ _ q2
    exact r.dist j k _ _ _ _ n w1 w2
/-- content, the other arguments, behind: content, what is told -/
abbrev SpecM := List D → List D → (List D → D → Prop) → Prop
def spOfM (sp : SpecM) : Sp := fun vs H Q _ => ∃ p us rest xs ds S R, vs = .ref p :: rest ∧ (Same S H ∧ Tbq S H) ∧ S p = none ∧ H p = some (.lst us) ∧ Dats S xs us ∧ Dats S ds rest ∧ sp xs ds R ∧
  (∀ ys d v H' S' ws, R ys d → GrowM p H S H' S' → H' p = some (.lst ws) → Dats S' ys ws → Dat S' d v → Q v H')
section
variable {P : Program} {w : World} {K : PySem.W.Frag} {mg : Str → Option Value} {base : Heap}
def endM (R : List D → D → Prop) (r : Rt) (ρ : Ev) : Prop := match r, (ρ[0]? : Option Sl) with
  | .val d, some (.own true (.lst ys)) => R ys d
  | _, _ => False
def endsM (R : List D → D → Prop) : DEnds where
  nx := endM R (.val .non)
  rt := endM R
  ex := fun _ => False
def startM (n : Nat) (xs ds : List D) : Ev := .own true (.lst xs) :: startE (n - 1) ds
theorem rep_startM {H S : Hp} {N : List Str} {ds xs : List D} {vs us : List V} {p : Addr} (sh : Same S H) (tb : Tbq S H) (hS : S p = none) (hH : H p = some (.lst us)) (hx : Dats S xs us) (h : Dats S ds vs) (hl : ds.length + 1 ≤ N.length) :
    Rep { H0 := H, S0 := S, M := fun a => a = p } (startM N.length xs ds) (L2.start N (.ref p :: vs)) H S := by
  have hlen := h.len
  have st : L2.start N (.ref p :: vs) = some (.ref p) :: (vs.map some ++ List.replicate (N.length - (vs.length + 1)) none) := rfl
  refine ⟨⟨fun _ _ _ e _ => e, fun _ e => e, .refl _, sh, fun _ _ => rfl, fun _ _ _ h => h, tb⟩, ?_, fun i sl e => ?_, fun i j m m' c c' ne e1 e2 => ?_⟩
  · rw [st]
    unfold startM startE
    simp only [List.length_append, List.length_map, List.length_replicate, List.length_cons]
    omega
  · rw [st]
    unfold startM startE at e
    cases i with
    | zero =>
      cases e
      exact ⟨p, _, rfl, hS, hH, ⟨us, rfl, hx⟩, fun _ => rfl, fun z => by cases z⟩
    | succ i =>
      rw [List.getElem?_cons_succ] at e ⊢
      rcases Nat.lt_or_ge i ds.length with hi | hi
      · rw [List.getElem?_append_left (by simpa using hi), List.getElem?_map] at e
        cases q : ds[i]? with
        | none => rw [q] at e; cases e
        | some d =>
          rw [q] at e
          cases e
          obtain ⟨v, hv, hz⟩ := h.get q
          refine ⟨v, ?_, hz⟩
          rw [List.getElem?_append_left (by rw [List.length_map, hlen]; exact hi), List.getElem?_map, hv]
          rfl
      · rw [List.getElem?_append_right (by simpa using hi), List.getElem?_replicate] at e
        split at e
        · cases e
          trivial
        · cases e
  · have only : ∀ (i : Nat) (m : Bool) (c : Cn), (startM N.length xs ds)[i]? = some (.own m c) → i = 0 := fun i m c e => by
      unfold startM startE at e
      cases i with
      | zero => rfl
      | succ i =>
        rw [List.getElem?_cons_succ] at e
        rcases Nat.lt_or_ge i ds.length with hi | hi
        · rw [List.getElem?_append_left (by simpa using hi), List.getElem?_map] at e
          cases q : ds[i]? with
          | none => rw [q] at e; cases e
          | some d => rw [q] at e; cases e
        · rw [List.getElem?_append_right (by simpa using hi), List.getElem?_replicate] at e
          split at e
          · cases e
          · cases e
    exact absurd ((only i m c e1).trans (only j m' c' e2).symm) ne
theorem fn_okM {x qual : Str} {st : Stmt} {f : Addr} {fd : FuncData} {N ps : List Str} {k : Nat} {sp : SpecM} (F : Fun K x qual st f fd) (S : FnScope N ps (defScope st)) (len : ∀ xs ds R, sp xs ds R → ds.length + 1 = ps.length)
    (hbody : ∀ (cdv : Value) (A : Around) (outer : List Env) (s : Shared) (H : Hp) (E : XK), Room k (A.deeper (envOfC qual (defScope st) s.heap.objs.size f cdv)) → XOk (cxF P w K mg base N qual (defScope st) f cdv A outer s H E) E →
      ∃ ws, SDs (cxF P w K mg base N qual (defScope st) f cdv A outer s H E) E (defBody st) ws ∧ ∀ xs ds R, sp xs ds R → ws (endsM R) (startM N.length xs ds)) :
    FnOk P w K mg base (L2N.CX P w) (k + 1) f fd ps (spOfM sp) := by
  have hpl : ps.length ≤ N.length := by
    have := congrArg List.length S.pre
    rw [List.length_take] at this
    omega
  refine okN F S (fun vs H Q E h => ?_) (fun cdv A outer s H vs Q E hr h => ?_)
  · obtain ⟨p, us, rest, xs, ds, S0, R, rfl, _, _, _, _, hd, hs, _⟩ := h
    rw [List.length_cons, hd.len]
    exact len xs ds R hs
  · obtain ⟨p, us, rest, xs, ds, S0, R, rfl, ⟨sh, tb⟩, hS, hH, hx, hd, hs, k1⟩ := h
    obtain ⟨ws, sd, pure⟩ := hbody cdv A outer s H E hr xk_fn
    obtain ⟨t, pt, so⟩ := sd.ex
    have hl : ds.length + 1 ≤ N.length := by rw [len xs ds R hs]; exact hpl
    have fin : ∀ {ρ : Ev} {σ : L2.St} {H' S' : Hp} {ys : List D} {d : D} {v : V}, Rep { H0 := H, S0 := S0, M := fun a => a = p } ρ σ H' S' → ρ[0]? = some (.own true (.lst ys)) → R ys d → Dat S' d v → Q v H' := fun {ρ σ H' S' ys d v} r h0 q hd => by
      obtain ⟨p', o, e1, e2, e3, ⟨ws, rfl, e4⟩, e5, _⟩ := r.own h0
      have : p' = p := e5 rfl
      subst this
      exact k1 ys d v H' S' ws q ⟨fun a o n e nt => r.fg.hh a o n e nt, r.fg.al, r.fg.ft, r.fg.ss, r.fg.sh, r.fg.nw⟩ e3 e4 hd
    refine ⟨t, pt, so _ _ (pure xs ds R hs) _ _ H S0 _ (rep_startM sh tb hS hH hx hd hl) ⟨fun ρ σ H' S' q r => ?_, fun r ρ v σ H' S' q rp pp => ?_, fun _ _ _ _ z => z.elim, fun _ _ _ _ z => z.elim, fun n C H' S' h1 h2 h3 => h1.elim⟩⟩
    · simp only [endsM, endM] at q
      split at q
      · rename_i d ys h1 h0
        cases h1
        exact fin (v := .non) r h0 q (show Dat S' .non .non from .n)
      · exact q.elim
    · simp only [endsM, endM] at q
      split at q
      · rename_i d ys h0
        exact fin rp h0 q pp
      · exact q.elim
end
section
variable {X : Cx} {E : XK} {e a b : Expr} {es : List Expr} {pos : Pos} {w wa wb we : WE} {wl : WL} {k : Nat} {f : Addr} {fd : FuncData} {ps : List Str} {sp : SpecM} {x y : Str} {p p1 mpos : Pos}
def AskM (sp : SpecM) (xs ds : List D) (K : List D → D → Prop) (_ : Tg K) : Prop := sp xs ds K
def wsCallM (i : Nat) (sp : SpecM) (wl : WL) : WS := fun q ρ => match ρ[i]? with
  | some (.own m (.lst xs)) => wl q.ex ρ fun ds => AskM sp xs ds (fun ys _ => q.nx (ρ.set i (.own m (.lst ys)))) ⟨⟩
  | _ => False
/-- f(l, ..) as a statement, l a slot's own list that f changes -/
theorem sd_callM (i : Nat) (G : FnOk X.prog X.w X.K X.mg X.base (L2N.CX X.prog X.w) k f fd ps (spOfM sp)) (hr : Room k X.A) (xk : XOk X E) (hg : Gl X x) (hm : X.mg x = some (.ref f)) (hk : PySem.W.keepIn X.K (.ref f) = true) (hb : Binds X.K fd ps [])
    (ha : AD X E es wl) (hN : X.N[i]? = some y := by rfl) (hv : Vis X.env.scope y := by first | exact Or.inl rfl | exact Or.inr (Or.inl rfl) | exact Or.inr (Or.inr rfl)) (hd : (y == ("__debug__" : Str)) = false := by decide) (hcd : (y == ("__classdict__" : Str)) = false := by decide)
    (hdb : (x == ("__debug__" : Str)) = false := by decide) (he : starEach (.Name y p1 :: es) X.env = (false, eval (.Name y p1) X.env) :: starEach es X.env := by rfl) (hpl : (backTo mpos (starEach es X.env)).any (·.1) = false := by rfl)
    (hs : swapsWith (.Call (.Name x p) (.Name y p1 :: es) [] mpos) none pos.line X.env = pure false := by rfl) :
    SD X E (.Expr (.Call (.Name x p) (.Name y p1 :: es) [] mpos) pos) (wsCallM i sp wl) := by
  obtain ⟨t, pt, s⟩ := ha.ex
  have px : Passes (L2N.CX X.prog X.w) X E := xk.pass
  refine ⟨_, ps_expr (pe_call G hr hg hm hk hb .nil px (pa_cons (pe_var hN hv hd hcd) pt he) hdb he hpl) hs, fun q ρ hw F σ H S D rp o => ?_⟩
  unfold wsCallM at hw
  split at hw
  · rename_i m xs hi
    obtain ⟨l, u, e, h1, h2, ⟨us, rfl, h3⟩, _⟩ := rp.own hi
    refine ⟨.ref l, e, ?_⟩
    refine s q.ex ρ _ hw F σ H S _ rp (o.exOk rp) fun ds vs H1 S1 q1 g1 hd => ?_
    have rp1 := rp.grow g1
    refine ⟨l, us, vs, xs, ds, S1, _, by rw [List.append_nil], ⟨g1.sh, rp1.fg.tb⟩, by rw [g1.nw l (by rw [h2]; intro z; cases z)]; exact h1, g1.hh.lst h2, Dats.mono g1.ss _ _ h3, hd, q1, fun ys d v H2 S2 ws q2 g2 z1 z2 z3 => ?_⟩
    exact o.nx _ _ H2 S2 q2 (rp1.putM hi e g2 z1 ⟨ws, rfl, z2⟩)
  · exact hw.elim
/-- x = x + l.pop()[c] : ints -/
def wsPopAdd (j i : Nat) (c : Int) : WS := fun q ρ => match ρ[j]?, ρ[i]? with
  | some (.fz (.int n)), some (.own m (.lst xs)) => ∃ ds k, xs.getLast? = some (.tup ds) ∧ atI ds c = some (.int k) ∧ q.nx ((ρ.set i (.own m (.lst xs.dropLast))).set j (.fz (.int (n + k))))
  | _, _ => False
theorem sd_popAdd (j i : Nat) {c : Int} {jj : Nat} {p2 p3 p4 p5 p6 p7 p8 : Pos} (hN : X.N.Nodup) (hj : X.N[j]? = some x := by rfl) (hi : X.N[i]? = some y := by rfl) (hx : Loc X.env.scope x := by first | exact Or.inl rfl | exact Or.inr rfl) (hvx : Vis X.env.scope x := by first | exact Or.inl rfl | exact Or.inr (Or.inl rfl) | exact Or.inr (Or.inr rfl))
    (hvy : Vis X.env.scope y := by first | exact Or.inl rfl | exact Or.inr (Or.inl rfl) | exact Or.inr (Or.inr rfl)) (hd : (x == ("__debug__" : Str)) = false := by decide) (hcd : (x == ("__classdict__" : Str)) = false := by decide) (hdy : (y == ("__debug__" : Str)) = false := by decide) (hcdy : (y == ("__classdict__" : Str)) = false := by decide)
    (hf : X.fn x = true ∨ X.env.scope.names.lookup x = some .local := by first | exact .inl rfl | exact .inr rfl) (hij : i ≠ j := by decide)
    (hbase : attributeBase (.Name y p4) "pop" X.env (eval (.Name y p4) X.env) = eval (.Name y p4) X.env := by rfl) (hline : (p5.endLine == p6.line) = true := by rfl)
    (hs : swapsWith (.BinOp (.Name x p2) .Add (.Subscript (.Call (.Attribute (.Name y p4) "pop" p5) [] [] p6) (.Constant (.int c) jj p7) p8) p3) (some (.Name x p1)) pos.line X.env = pure false := by rfl) :
    SD X E (.Assign [.Name x p1] (.BinOp (.Name x p2) .Add (.Subscript (.Call (.Attribute (.Name y p4) "pop" p5) [] [] p6) (.Constant (.int c) jj p7) p8) p3) pos) (wsPopAdd j i c) := by
  refine ⟨_, ps_set hN hj hx (pe_op op_add (pe_var hj hvx hd hcd) (pe_ix ix_tup (pe_bm0 PySem.F.plainAttrs_list PySem.F.slot_list_pop PySem.F.type_list_pop mt_pop (pe_var hi hvy hdy hcdy) hbase hline) pe_int fun _ _ => rfl)) hs hf, fun q ρ hw F σ H S D rp o => ?_⟩
  unfold wsPopAdd at hw
  split at hw
  · rename_i n m xs ej ei
    obtain ⟨ds, k, e1, e2, q1⟩ := hw
    obtain ⟨v, ev, hv⟩ := rp.fz ej
    unfold Dat at hv
    subst hv
    obtain ⟨l, u, el, h1, h2, ⟨us, rfl, h3⟩, _⟩ := rp.own ei
    have hne : xs ≠ [] := fun z => by rw [z] at e1; cases e1
    have hpos := List.length_pos_iff.mpr hne
    have hlen := h3.len
    have e1' : xs[us.length - 1]? = some (.tup ds) := by rw [hlen, ← List.getLast?_eq_getElem?]; exact e1
    obtain ⟨y, hy, hz⟩ := h3.get e1'
    unfold Dat at hz
    obtain ⟨a, ws, rfl, ra, hw⟩ := hz
    obtain ⟨z, hz1, hz2⟩ := atI_dats hw e2
    unfold Dat at hz2
    subst hz2
    have ne : a ≠ l := fun z => by
      have := rp.sh _ _ ra
      rw [z, h2] at this
      cases this
    refine ⟨.int n, ev, .ref l, el, .inl ⟨rfl, us, .of h2⟩, l, us, .ref a, rfl, rfl, h2, hy, a, ws, c, .int k, rfl, rfl, .of ?_, hz1, n, k, rfl, rfl, ?_⟩
    · rw [upd_ne ne]
      exact rp.sh _ _ ra
    · exact o.nx _ _ _ S q1 ((rp.put (c' := .lst xs.dropLast) (o' := .lst us.dropLast) ei el ⟨_, rfl, h3.dropLast⟩).set .i)
  · exact hw.elim
end
end NL

namespace NL
open PySem PySem.Spec L2
open PyProof.Rows hiding St
variable [KC]
section
variable {X : Cx} {E : XK} {b e : Expr} {w wb : WE} {x : Str} {p pos : Pos}
omit [KC] in
theorem ixN_at {n j : Nat} (hj : j < n) : ixN n (j : Int) = some j := by
  unfold ixN
  simp only [Int.natCast_nonneg, if_true, Int.toNat_natCast]
  exact if_pos (by omega)
theorem get_list : PGet X (rIxL X.K) := by
  intro pins s σ H x y v u Q I rx ry h
  obtain ⟨p, xs, i, z, rfl, rfl, hq, he, q⟩ := h
  cases rx
  obtain ⟨t, rfl⟩ := ry
  obtain ⟨its, r, pl, hz⟩ := I.list hq
  obtain ⟨j, h1, h2, h3, h4, h5⟩ := atI_get he
  obtain ⟨w, ew, rw'⟩ := r.get h2
  have hl := r.length
  have hn := line63
  have fin : EP X pins σ Q w s := ⟨z, H, I, rw', q⟩
  by_cases h0 : 0 ≤ i
  · have hj : i.toNat = j := by
      rw [seqIndex_of h0 h5] at h1
      exact Option.some.inj h1
    exact wpAny_getItem_list pl.isList h0 (by omega) (by rw [hj]; simpa using ew) fin
  · have hj : (i + (its.toArray.size : Int)).toNat = j := by
      rw [seqIndex_neg (by omega) h4] at h1
      rw [List.size_toArray, ← hl]
      exact Option.some.inj h1
    exact wpAny_getItem_list_neg pl.isList (by omega) (by rw [List.size_toArray] <;> omega) (by omega) (by rw [hj]; simpa using ew) fin
/-- l[k] op= e, l a slot's own list -/
def wsAugIx (i : Nat) (g : D → D → (D → Prop) → Prop) (wb w : WE) : WS := fun q ρ => match ρ[i]? with
  | some (.own m (.lst xs)) => wb q.ex ρ fun k => match k with
    | .int k => ∃ (j : Nat) (d : D), k = (j : Int) ∧ xs[j]? = some d ∧ w q.ex ρ fun e => g d e fun z => q.nx (ρ.set i (.own m (.lst (xs.set j z))))
    | _ => False
  | _ => False
theorem sd_augIx (i : Nat) {tpos : Pos} {op : Operator} {g : D → D → (D → Prop) → Prop} (ho : PipD X op g) (hb : ED X E b wb) (he : ED X E e w) (hN : X.N[i]? = some x := by rfl) (hv : Vis X.env.scope x := by first | exact Or.inl rfl | exact Or.inr (Or.inl rfl) | exact Or.inr (Or.inr rfl))
    (hd : (x == ("__debug__" : Str)) = false := by decide) (hcd : (x == ("__classdict__" : Str)) = false := by decide)
    (ha : ∀ ov iv new, augStore b ov iv new = (do holding [new, ov, iv] (setItem ov iv new); release [new, ov, iv] []; pure .next) := by intros; rfl) :
    SD X E (.AugAssign (.Subscript (.Name x p) b tpos) op e pos) (wsAugIx i g wb w) := by
  obtain ⟨t, pe, s⟩ := he.ex
  obtain ⟨tb, pb, sb⟩ := hb.ex
  obtain ⟨r, pi, si⟩ := ho.ex
  refine ⟨_, ps_augS (pe_var hN hv hd hcd) pb get_list pe pi set_list ha, fun q ρ hw F σ H S D rp o => ?_⟩
  unfold wsAugIx at hw
  split at hw
  · rename_i m xs hi
    obtain ⟨l, u, e, z1, z2, ⟨us, rfl, z3⟩, _⟩ := rp.own hi
    refine ⟨.ref l, e, sb q.ex ρ _ hw F σ H S _ rp (o.exOk rp) fun k kv H1 S1 q1 g1 h1 => ?_⟩
    cases k with
    | int k =>
      unfold Dat at h1
      subst h1
      obtain ⟨j, d, rfl, hdj, q1⟩ := q1
      have rp1 := rp.grow g1
      have z31 := Dats.mono g1.ss _ _ z3
      obtain ⟨y, hy, hz⟩ := z31.get hdj
      have hj : j < us.length := (List.getElem?_eq_some_iff.mp hy).1
      refine ⟨l, us, (j : Int), y, rfl, rfl, .of (g1.hh.lst z2), atI_nat hy, ?_⟩
      refine s q.ex ρ _ q1 F σ H1 S1 _ rp1 (o.exOk rp1) fun e' v' H2 S2 q2 g2 h2 => ?_
      refine si d e' _ q2 H2 S2 y v' _ (rp1.grow g2).sh (Dat.mono g2.ss _ _ hz) h2 fun z' y' q3 h3 => ?_
      exact ⟨l, us, (j : Int), j, rfl, rfl, g2.hh.lst (g1.hh.lst z2), ixN_at hj, o.nx _ _ _ S2 q3 ((rp1.grow g2).put hi e ⟨_, rfl, (Dats.mono g2.ss _ _ z31).set j h3⟩)⟩
    | _ => exact q1.elim
  · exact hw.elim
/-- sep.join(texts) -/
def gJoin (a : Str) : D → (D → Prop) → Prop
  | .lst ds, Q => ∃ ys : List Str, ds = ys.map D.str ∧ (ys.map (·.length)).sum + ys.length * a.length ≤ 16777216 ∧ Q (.str (Txt.join a ys))
  | _, _ => False
def wJoin (wa wb : WE) : WE := fun x ρ Q => wa x ρ fun d => match d with
  | .str a => wb x ρ fun e => gJoin a e Q
  | _ => False
theorem ed_join {a : Expr} {wa : WE} {apos : Pos} (ha : BD X E a wa) (hb : BD X E b wb) (hs : starEach [b] X.env = [(false, eval b X.env)] := by rfl) (hbase : attributeBase a "join" X.env (eval a X.env) = eval a X.env := by rfl) (hline : (apos.endLine == pos.line) = true := by rfl) :
    ED X E (.Call (.Attribute a "join" apos) [b] [] pos) (wJoin wa wb) := by
  obtain ⟨ta, pa, sa⟩ := ha.ex
  obtain ⟨tb, pb, sb⟩ := hb.ex
  refine ⟨_, pe_join pa pb hs hbase hline, fun x ρ Q hw F σ H S Q' rp ex k => ?_⟩
  refine sa x ρ _ hw F σ H S _ rp ex fun d u H1 S1 q1 g1 h1 => ?_
  cases d with
  | str a =>
    cases h1.s
    refine ⟨⟨a, rfl⟩, sb x ρ _ q1 F σ H1 S1 _ (rp.grow g1) (ex.grow g1) fun e v H2 S2 q2 g2 h2 => ?_⟩
    cases e with
    | lst ds =>
      obtain ⟨ys, rfl, hz, q2⟩ := q2
      obtain ⟨l, vs, rfl, r, z⟩ := h2
      have := z.ofStrs
      subst this
      exact ⟨a, l, ys, rfl, rfl, .inl (.of r), hz, k _ _ H2 S2 q2 (g1.trans g2) .s⟩
    | _ => exact q2.elim
  | _ => exact q1.elim
end
/-- a promise that is never asked -/
theorem fn_no {P : Program} {w : World} {K : PySem.W.Frag} {mg : Str → Option Value} {base : Heap} {k : Nat} {f : Addr} {fd : FuncData} {ps : List Str} {sp : Spec} (h : ∀ ds x R, ¬ sp ds x R) :
    FnOk P w K mg base (L2N.CX P w) k f fd ps (spOf mg sp) :=
  ⟨fun _ _ _ _ ⟨_, _, _, _, _, _, hs, _⟩ => (h _ _ _ hs).elim, fun _ _ _ _ _ _ _ _ _ _ _ _ _ ⟨_, _, _, _, _, _, hs, _⟩ => (h _ _ _ hs).elim⟩
/-! a module's own texts and numbers -/
section
variable {X : Cx} {E : XK} {x : Str} {p : Pos}
theorem ed_globS {s : Str} (hg : Gl X x) (h : ∃ t, X.mg x = some (.str s t)) (hd : (x == ("__debug__" : Str)) = false := by decide) : ED X E (.Name x p) (wC (.str s)) := by
  obtain ⟨t, h⟩ := h
  exact ed_glob (v := .str s) hg h ⟨t, rfl⟩ (fun _ => Dat.s) hd
theorem ed_globI {s : Int} (hg : Gl X x) (h : ∃ t, X.mg x = some (.int s t)) (hd : (x == ("__debug__" : Str)) = false := by decide) : ED X E (.Name x p) (wC (.int s)) := by
  obtain ⟨t, h⟩ := h
  exact ed_glob (v := .int s) hg h ⟨t, rfl⟩ (fun _ => Dat.i) hd
end
/-! sum, any, all over a list -/
section
variable {X : Cx}
def gSum : List D → (D → Prop) → Prop
  | [.lst ds], Q => ∃ ns : List Int, ds = ns.map D.int ∧ Q (.int ns.sum)
  | _, _ => False
theorem cSum (hc : X.calm = true) : CalD X (.builtin "sum") gSum := by
  refine ⟨_, cr_sum hc, fun ds Q h H S vs Q' sh hd k => ?_⟩
  unfold gSum at h
  split at h
  · obtain ⟨ns, rfl, q⟩ := h
    obtain ⟨v, rfl, hz⟩ := hd.one
    obtain ⟨a, ws, rfl, r, z⟩ := hz
    have := z.ofInts
    subst this
    exact ⟨a, ns, rfl, .of r, k _ _ H S q (.refl sh) .i⟩
  · exact h.elim
def gAny : List D → (D → Prop) → Prop
  | [.lst ds], Q => ∃ bs : List Bool, ds = bs.map D.bl ∧ Q (.bl (bs.any id))
  | _, _ => False
theorem cAny (hc : X.calm = true) : CalD X (.builtin "any") gAny := by
  refine ⟨_, cr_any hc, fun ds Q h H S vs Q' sh hd k => ?_⟩
  unfold gAny at h
  split at h
  · obtain ⟨ns, rfl, q⟩ := h
    obtain ⟨v, rfl, hz⟩ := hd.one
    obtain ⟨a, ws, rfl, r, z⟩ := hz
    have := z.ofBls
    subst this
    exact ⟨a, ns, rfl, .of r, k _ _ H S q (.refl sh) .b⟩
  · exact h.elim
def gAll : List D → (D → Prop) → Prop
  | [.lst ds], Q => ∃ bs : List Bool, ds = bs.map D.bl ∧ Q (.bl (bs.all id))
  | _, _ => False
theorem cAll (hc : X.calm = true) : CalD X (.builtin "all") gAll := by
  refine ⟨_, cr_all hc, fun ds Q h H S vs Q' sh hd k => ?_⟩
  unfold gAll at h
  split at h
  · obtain ⟨ns, rfl, q⟩ := h
    obtain ⟨v, rfl, hz⟩ := hd.one
    obtain ⟨a, ws, rfl, r, z⟩ := hz
    have := z.ofBls
    subst this
    exact ⟨a, ns, rfl, .of r, k _ _ H S q (.refl sh) .b⟩
  · exact h.elim
end
end NL

/-! Expressions with an effect: a def that changes a slot's own list and tells a value. -/
namespace NL
open PySem PySem.Spec L2
open PyProof.Rows hiding St
variable [KC]
abbrev WM := XS → Ev → (D → Ev → Prop) → Prop
structure EM (X : Cx) (E : XK) (e : Expr) (w : WM) : Prop where
  ex : ∃ t : TE, PE X e t ∧ ∀ (x : XS) (ρ : Ev) (Q : D → Ev → Prop), w x ρ Q → ∀ (F : Fr) (σ : L2.St) (H S : Hp) (Q' : VK), Rep F ρ σ H S → (∀ ρ H S, Rep F ρ σ H S → ExOk X.mg E x H S) →
    (∀ d v ρ' H' S', Q d ρ' → Rep F ρ' σ H' S' → Same S S' → Dat S' d v → Q' v H') → t σ H Q'
section
variable {X : Cx} {E : XK} {e a b : Expr} {es : List Expr} {pos : Pos} {w wa wb : WE} {wm : WM} {wl : WL} {ws : WS} {k : Nat} {f : Addr} {fd : FuncData} {ps : List Str} {sp : SpecM} {x y : Str} {p p1 mpos : Pos}
def wmCall (i : Nat) (sp : SpecM) (wl : WL) : WM := fun x ρ Q => match ρ[i]? with
  | some (.own m (.lst xs)) => wl x ρ fun ds => AskM sp xs ds (fun ys d => Q d (ρ.set i (.own m (.lst ys)))) ⟨⟩
  | _ => False
theorem em_call (i : Nat) (G : FnOk X.prog X.w X.K X.mg X.base (L2N.CX X.prog X.w) k f fd ps (spOfM sp)) (hr : Room k X.A) (xk : XOk X E) (hg : Gl X x) (hm : X.mg x = some (.ref f)) (hk : PySem.W.keepIn X.K (.ref f) = true) (hb : Binds X.K fd ps [])
    (ha : AD X E es wl) (hN : X.N[i]? = some y := by rfl) (hv : Vis X.env.scope y := by first | exact Or.inl rfl | exact Or.inr (Or.inl rfl) | exact Or.inr (Or.inr rfl)) (hd : (y == ("__debug__" : Str)) = false := by decide) (hcd : (y == ("__classdict__" : Str)) = false := by decide)
    (hdb : (x == ("__debug__" : Str)) = false := by decide) (he : starEach (.Name y p1 :: es) X.env = (false, eval (.Name y p1) X.env) :: starEach es X.env := by rfl) (hpl : (backTo mpos (starEach es X.env)).any (·.1) = false := by rfl) :
    EM X E (.Call (.Name x p) (.Name y p1 :: es) [] mpos) (wmCall i sp wl) := by
  obtain ⟨t, pt, s⟩ := ha.ex
  have px : Passes (L2N.CX X.prog X.w) X E := xk.pass
  refine ⟨_, pe_call G hr hg hm hk hb .nil px (pa_cons (pe_var hN hv hd hcd) pt he) hdb he hpl, fun x ρ Q hw F σ H S Q' rp ex k => ?_⟩
  unfold wmCall at hw
  split at hw
  · rename_i m xs hi
    obtain ⟨l, u, e, h1, h2, ⟨us, rfl, h3⟩, _⟩ := rp.own hi
    refine ⟨.ref l, e, ?_⟩
    refine s x ρ _ hw F σ H S _ rp (ex _ _ _ rp) fun ds vs H1 S1 q1 g1 hd => ?_
    have rp1 := rp.grow g1
    refine ⟨l, us, vs, xs, ds, S1, _, by rw [List.append_nil], ⟨g1.sh, rp1.fg.tb⟩, by rw [g1.nw l (by rw [h2]; intro z; cases z)]; exact h1, g1.hh.lst h2, Dats.mono g1.ss _ _ h3, hd, q1, fun ys d v H2 S2 ws q2 g2 z1 z2 z3 => ?_⟩
    exact k d v _ H2 S2 q2 (rp1.putM hi e g2 z1 ⟨ws, rfl, z2⟩) (g1.ss.trans g2.ss) z3
  · exact hw.elim
def wmOpL (g : D → D → (D → Prop) → Prop) (wm : WM) (wb : WE) : WM := fun x ρ Q => wm x ρ fun d ρ1 => wb x ρ1 fun e => g d e fun z => Q z ρ1
theorem em_opL {op : Operator} {g : D → D → (D → Prop) → Prop} (ho : OpD X (binaryOp op) g) (ha : EM X E a wm) (hb : ED X E b wb) : EM X E (.BinOp a op b pos) (wmOpL g wm wb) := by
  obtain ⟨r, o, so⟩ := ho.ex
  obtain ⟨ta, pa, sa⟩ := ha.ex
  obtain ⟨tb, pb, sb⟩ := hb.ex
  refine ⟨_, pe_op o pa pb, fun x ρ Q hw F σ H S Q' rp ex k => ?_⟩
  refine sa x ρ _ hw F σ H S _ rp ex fun d u ρ1 H1 S1 q1 r1 e1 h1 => ?_
  refine sb x ρ1 _ q1 F σ H1 S1 _ r1 (ex _ _ _ r1) fun e v H2 S2 q2 g2 h2 => ?_
  refine so d e _ q2 H2 S2 u v Q' g2.sh (BDat.of g2.sh (Dat.mono g2.ss _ _ h1)) (BDat.of g2.sh h2) fun z y H3 S3 q3 g3 h3 => ?_
  exact k z y ρ1 H3 S3 q3 ((r1.grow g2).grow g3) ((e1.trans g2.ss).trans g3.ss) h3
def wmOpR (g : D → D → (D → Prop) → Prop) (wa : WE) (wm : WM) : WM := fun x ρ Q => wa x ρ fun d => wm x ρ fun e ρ1 => g d e fun z => Q z ρ1
theorem em_opR {op : Operator} {g : D → D → (D → Prop) → Prop} (ho : OpD X (binaryOp op) g) (ha : ED X E a wa) (hb : EM X E b wm) : EM X E (.BinOp a op b pos) (wmOpR g wa wm) := by
  obtain ⟨r, o, so⟩ := ho.ex
  obtain ⟨ta, pa, sa⟩ := ha.ex
  obtain ⟨tb, pb, sb⟩ := hb.ex
  refine ⟨_, pe_op o pa pb, fun x ρ Q hw F σ H S Q' rp ex k => ?_⟩
  refine sa x ρ _ hw F σ H S _ rp (ex _ _ _ rp) fun d u H1 S1 q1 g1 h1 => ?_
  refine sb x ρ _ q1 F σ H1 S1 _ (rp.grow g1) ex fun e v ρ1 H2 S2 q2 r2 e2 h2 => ?_
  refine so d e _ q2 H2 S2 u v Q' r2.sh (BDat.of r2.sh (Dat.mono e2 _ _ h1)) (BDat.of r2.sh h2) fun z y H3 S3 q3 g3 h3 => ?_
  exact k z y ρ1 H3 S3 q3 (r2.grow g3) ((g1.ss.trans e2).trans g3.ss) h3
def wmIxR (wa : WE) (wm : WM) : WM := fun x ρ Q => wa x ρ fun d => wm x ρ fun e ρ1 => match d, e with
  | .str z, .int i => z.length ≤ sizeLine ∧ ∃ c, atI z.cps.toList i = some c ∧ Q (.str ⟨#[c]⟩) ρ1
  | .lst xs, .int i => ∃ d, atI xs i = some d ∧ Q d ρ1
  | _, _ => False
theorem em_ixR (ha : ED X E a wa) (hb : EM X E b wm) (hs : PlainIx b := by exact fun _ _ => rfl) : EM X E (.Subscript a b pos) (wmIxR wa wm) := by
  obtain ⟨ta, pa, sa⟩ := ha.ex
  obtain ⟨tb, pb, sb⟩ := hb.ex
  refine ⟨_, pe_ix (ix_str.or ix_list) pa pb hs, fun x ρ Q hw F σ H S Q' rp ex k => ?_⟩
  refine sa x ρ _ hw F σ H S _ rp (ex _ _ _ rp) fun d u H1 S1 q1 g1 h1 => ?_
  refine sb x ρ _ q1 F σ H1 S1 _ (rp.grow g1) ex fun e v ρ1 H2 S2 q2 r2 e2 h2 => ?_
  have h1 := Dat.mono e2 _ _ h1
  split at q2
  · obtain ⟨hz, c, hc, q⟩ := q2
    unfold Dat at h1 h2
    subst h1 h2
    exact .inl ⟨_, _, c, rfl, rfl, hz, hc, k _ _ ρ1 H2 S2 q r2 (g1.ss.trans e2) .s⟩
  · obtain ⟨d, hd, q⟩ := q2
    unfold Dat at h1 h2
    subst h2
    obtain ⟨p, vs, rfl, r, z⟩ := h1
    obtain ⟨y, hy, hz⟩ := atI_dats z hd
    exact .inr ⟨p, vs, _, y, rfl, rfl, .of (r2.sh _ _ r), hy, k _ _ ρ1 H2 S2 q r2 (g1.ss.trans e2) hz⟩
  · exact q2.elim
def wmTup2 (wa : WE) (wm : WM) : WM := fun x ρ Q => wa x ρ fun d => wm x ρ fun e ρ1 => Q (.tup [d, e]) ρ1
theorem em_tup2 {k1} (ha : ED X E a wa) (hb : EM X E b wm) (he : starEach (a :: [b]) X.env = (false, eval a X.env) :: starEach [b] X.env := by rfl) (he2 : starEach (b :: []) X.env = (false, eval b X.env) :: starEach [] X.env := by rfl) :
    EM X E (.Tuple [a, b] k1 pos) (wmTup2 wa wm) := by
  obtain ⟨ta, pa, sa⟩ := ha.ex
  obtain ⟨tb, pb, sb⟩ := hb.ex
  refine ⟨_, pe_tup (pa_cons pa (pa_cons pb pa_nil he2) he), fun x ρ Q hw F σ H S Q' rp ex k => ?_⟩
  refine sa x ρ _ hw F σ H S _ rp (ex _ _ _ rp) fun d u H1 S1 q1 g1 h1 => ?_
  refine sb x ρ _ q1 F σ H1 S1 _ (rp.grow g1) ex fun e v ρ1 H2 S2 q2 r2 e2 h2 => ⟨(by decide : 2 ≤ 16777216), fun p hp => ?_⟩
  obtain ⟨g, y⟩ := lay_tup r2.sh hp (Dats.cons (Dat.mono e2 _ _ h1) (.one h2))
  exact k _ _ ρ1 _ _ q2 (r2.grow g) ((g1.ss.trans e2).trans g.ss) y
def wsSetM (i : Nat) (wm : WM) : WS := fun q ρ => wm q.ex ρ fun d ρ1 => q.nx (ρ1.set i (.fz d))
theorem sd_setM (i : Nat) (hN : X.N.Nodup) (he : EM X E e wm) (hi : X.N[i]? = some x := by rfl) (hx : Loc X.env.scope x := by first | exact Or.inl rfl | exact Or.inr rfl) (hs : swapsWith e (some (.Name x p)) pos.line X.env = pure false := by rfl)
    (hf : X.fn x = true ∨ X.env.scope.names.lookup x = some .local := by first | exact .inl rfl | exact .inr rfl) : SD X E (.Assign [.Name x p] e pos) (wsSetM i wm) := by
  obtain ⟨t, pe, s⟩ := he.ex
  refine ⟨_, ps_set hN hi hx pe hs hf, fun q ρ hw F σ H S D rp o => ?_⟩
  exact s q.ex ρ _ hw F σ H S _ rp (fun _ _ _ r => o.exOk r) fun d v ρ1 H1 S1 q1 r1 e1 h1 => o.nx _ _ H1 S1 q1 (r1.set h1)
/-- l.append(e), l a slot's own list, e with an effect on another one -/
def wsAppM (i : Nat) (wm : WM) : WS := fun q ρ => match ρ[i]? with
  | some (.own _ (.lst _)) => wm q.ex ρ fun d ρ1 => match ρ1[i]? with
    | some (.own m (.lst xs)) => xs.length < sizeLine ∧ q.nx (ρ1.set i (.own m (.lst (xs ++ [d]))))
    | _ => False
  | _ => False
theorem sd_appM (i : Nat) {apos : Pos} (ha : EM X E e wm)
    (hN : X.N[i]? = some x := by rfl) (hv : Vis X.env.scope x := by first | exact Or.inl rfl | exact Or.inr (Or.inl rfl) | exact Or.inr (Or.inr rfl)) (hd : (x == ("__debug__" : Str)) = false := by decide) (hcd : (x == ("__classdict__" : Str)) = false := by decide)
    (hbase : attributeBase (.Name x p) "append" X.env (eval (.Name x p) X.env) = eval (.Name x p) X.env := by rfl)
    (hfew : ((backTo mpos (starEach (e :: []) X.env)).all (fun x => !x.1) && (backToKw mpos (keywordEach [] X.env)).all (fun x => x.1.isSome)
      && decide ((e :: ([] : List Expr)).length + ([] : List Keyword).length + (if ([] : List Keyword).isEmpty then 0 else 1) < 30)) = true := by rfl)
    (hline : (apos.endLine == mpos.line) = true := by rfl) (hst : starEach (e :: []) X.env = (false, eval e X.env) :: starEach [] X.env := by rfl) (hplain : (backTo mpos (starEach ([] : List Expr) X.env)).any (·.1) = false := by rfl)
    (hs : swapsWith (.Call (.Attribute (.Name x p) "append" apos) [e] [] mpos) none pos.line X.env = pure false := by rfl) :
    SD X E (.Expr (.Call (.Attribute (.Name x p) "append" apos) [e] [] mpos) pos) (wsAppM i wm) := by
  obtain ⟨t, pt, s⟩ := ha.ex
  refine ⟨_, ps_expr (pe_bm PySem.F.plainAttrs_list PySem.F.slot_list_append PySem.F.type_list_append mt_append (pe_var hN hv hd hcd) (pa_cons pt pa_nil hst) hbase hfew hline hst hplain) hs, fun q ρ hw F σ H S D rp o => ?_⟩
  unfold wsAppM at hw
  split at hw
  case h_2 => exact hw.elim
  rename_i m0 xs0 hi0
  obtain ⟨l, u, e, h1, h2, ⟨us, rfl, h3⟩, _⟩ := rp.own hi0
  refine ⟨.ref l, e, .inl ⟨rfl, _, .of h2⟩, ?_⟩
  refine s q.ex ρ _ hw F σ H S _ rp (fun _ _ _ r => o.exOk r) fun d v ρ1 H1 S1 q1 r1 e1 hd1 => ?_
  split at q1
  · rename_i m xs hi
    obtain ⟨l', u', e', z1, z2, ⟨us', rfl, z3⟩, _⟩ := r1.own hi
    have : l' = l := by
      rw [e] at e'
      cases e'
      rfl
    subst this
    exact ⟨l', us', v, rfl, rfl, z2, by rw [z3.len]; exact q1.1, o.nx _ _ _ S1 q1.2 (r1.put (o' := .lst (us' ++ [v])) hi e' ⟨_, rfl, z3.app (.one hd1)⟩)⟩
  · exact q1.elim
/-- for x in range(e), e with an effect -/
def wForM (wm : WM) (g : WG) (wb : WS) : WS := fun q ρ => wm q.ex ρ fun d ρ1 => match d with
  | .int n => smallI n ∧ loopL g wb q (rngD 0 1 n.toNat) ρ1
  | _ => False
theorem sd_forM {tg : Expr} {is : List Nat} {g : WG} {body : List Stmt} (hg0 : Gl X "range") (hm0 : X.mg "range" = none) (xk : XOk X E) (hc : X.calm = true) (ha : EM X E a wm) (hg : GD X tg is g) (hb : SDs X E body ws)
    (hs1 : starEach [a] X.env = [(false, eval a X.env)] := by rfl) (he : starEach (a :: []) X.env = (false, eval a X.env) :: starEach [] X.env := by rfl)
    (hs : ∀ x, foldedSetIterable (.Call (.Name "range" p) [a] [] mpos) X.env x = pure x := by intro _; rfl) :
    SD X E (.For tg (.Call (.Name "range" p) [a] [] mpos) body [] pos) (wForM wm g ws) := by
  obtain ⟨ti, pti, si⟩ := ha.ex
  obtain ⟨tg, pg, sg⟩ := hg.ex
  obtain ⟨tb, pb, sb⟩ := hb.ex
  refine ⟨_, ps_for xk.own hc (pi_range1 hg0 hm0 (pa_cons pti pa_nil he) hs1) pg pb hs, fun q ρ0 hw F σ H S D rp o => ?_⟩
  refine si q.ex ρ0 _ hw F σ H S _ rp (fun _ _ _ r => o.exOk r) fun d v ρ H1 S1 q1 rp1 e1 h1 => ?_
  cases d with
  | int n =>
    unfold Dat at h1
    subst h1
    obtain ⟨⟨n1, n2⟩, q1⟩ := q1
    refine ⟨n, rfl, n1, n2, ?_⟩
    have hJ : ItOk (Itr 0 n.toNat) S1 (rngD 0 1 n.toNat) := it_rng
    generalize rngD 0 1 n.toNat = ds at q1 hJ
    have ss1 := rp1.fg.ss
    have nw1 := rp1.fg.nw
    let W : Nat → Nat → L2.St → Hp → Prop := fun i m σ H => m = ds.length - i ∧ i ≤ ds.length ∧ ∃ ρ S, Rep { F with S0 := S1 } ρ σ H S ∧ loopL g ws q (ds.drop i) ρ
    refine ⟨W, ⟨ds.length, by simp, Nat.zero_le _, ρ, S1, rep_to rp1, q1⟩, ?_⟩
    rintro i m σ2 H2 ⟨rfl, hi, ρ2, S2, r2, hl⟩
    rcases Nat.lt_or_ge i ds.length with hlt | hge
    · obtain ⟨d, hdi⟩ : ∃ d, ds[i]? = some d := ⟨_, List.getElem?_eq_getElem hlt⟩
      obtain ⟨go, yl⟩ := (hJ i H2 S2 r2.fg.ss r2.fg.sh).1 d hdi
      have hdrop : ds.drop i = d :: ds.drop (i + 1) := by
        rw [List.drop_eq_getElem_cons hlt]
        congr 1
        rw [List.getElem?_eq_getElem hlt] at hdi
        exact Option.some.inj hdi
      rw [hdrop] at hl
      refine .inr ⟨go, W (i + 1) (ds.length - (i + 1)), fun σ' H' h => ⟨_, by omega, h⟩, fun x H' y => ?_⟩
      obtain ⟨S', g', dx⟩ := yl x H' y
      refine sg d ρ2 _ hl { F with S0 := S1 } σ2 H' S' x _ (r2.grow g') dx fun ρ3 σ3 h3 r3 _ => ?_
      refine sb _ ρ3 h3 { F with S0 := S1 } σ3 H' S' _ r3 ⟨fun ρ4 σ4 H4 S4 q4 r4 => ⟨rfl, hlt, ρ4, S4, r4, q4⟩, fun r ρ4 v σ4 H4 S4 q4 r4 p4 => o.rt r ρ4 v σ4 H4 S4 q4 (rep_in r4 ss1 nw1) p4,
        fun ρ4 σ4 H4 S4 q4 r4 => o.nx ρ4 σ4 H4 S4 q4 (rep_in r4 ss1 nw1), fun ρ4 σ4 H4 S4 q4 r4 => ⟨rfl, hlt, ρ4, S4, r4, q4⟩, fun n C H4 S4 h1 h2 h3 => o.ex n C H4 S4 h1 h2 (fg_in h3 ss1 nw1)⟩
    · have e : i = ds.length := by omega
      subst e
      rw [List.drop_length] at hl
      exact .inl ⟨(hJ _ H2 S2 r2.fg.ss r2.fg.sh).2 (Nat.le_refl _), o.nx ρ2 σ2 H2 S2 hl (rep_in r2 ss1 nw1)⟩
  | _ => exact q1.elim
end
end NL

namespace NL
open PySem PySem.Spec L2
open PyProof.Rows hiding St

/-! ### the law's own promise -/
def SP_law : Spec := fun ds _ R => ∃ ns, ds = [.scr ns] ∧ ns.length ≤ 63 ∧ R (.val (.bl true))
theorem len_law (ds : List D) (x : XS) (R : Rt → Prop) (h : SP_law ds x R) : ds.length = ["_law_script"].length := by
  obtain ⟨ns, rfl, _⟩ := h
  rfl
def spLaw (K : PySem.W.Frag) : Sp := fun vs H Q _ => ∃ (a : Addr) (ns : List Int), vs = [.ref a] ∧ SqL K H a (ns.map V.int) ∧ ns.length ≤ 63 ∧ ∀ H', Q (.bl true) H'
theorem law_in {K : PySem.W.Frag} {H : Hp} {a : Addr} {ns : List Int} (hl : ns.length ≤ 63) (hS : SqL K H a (ns.map V.int)) : spLaw K [.ref a] H (fun v _ => v = .bl true) fun _ _ _ => False :=
  ⟨a, ns, rfl, hS, hl, fun _ => rfl⟩
theorem law_cx {P : Program} {w : World} {H : Hp} {s s' : Shared} {e : Value} (h : L2N.CX P w [] H s (fun _ _ _ => False) e s') : False := by
  obtain ⟨_, _, _, _, _, _, _, _, _, _, _, _, z⟩ := h
  exact z
theorem law_F {P : Program} {w : World} {K : PySem.W.Frag} {mg : Str → Option Value} {fl : Addr} {k : Nat} {x : Str}
    {ca : Str → Addr}
    (h : ∃ fd : FuncData, (∀ (s : Shared) (v : Value), BindsTo s fd ⟨[v], []⟩ [(x, v)]) ∧ ∀ base : Heap, K.In base → base.Ns mainGlobals mg → FnOk P w K mg base (L2N.CX P w) k fl fd [x] (@spOf ⟨K, [], ca⟩ mg SP_law)) :
    ∃ fd : FuncData, (∀ (s : Shared) (v : Value), BindsTo s fd ⟨[v], []⟩ [(x, v)]) ∧ ∀ base : Heap, K.In base → base.Ns mainGlobals mg → FnOk P w K mg base (L2N.CX P w) k fl fd [x] (spLaw K) := by
  obtain ⟨fd, h1, h2⟩ := h
  refine ⟨fd, h1, fun base b1 b2 => (h2 base b1 b2).imp fun vs H Q E h => ?_⟩
  obtain ⟨a, ns, rfl, hS, hl, q⟩ := h
  letI : KC := ⟨K, [], ca⟩
  refine ⟨[.scr ns], H, fun _ => False, fun r => r = .val (.bl true), ⟨.refl _, (fun _ h => by cases h), (fun _ h => by cases h)⟩, .one ?_, ⟨ns, rfl, hl, rfl⟩, fun r v H' S' e _ h => ?_, fun _ _ _ _ z => z.elim⟩
  · unfold Dat
    exact ⟨a, rfl, hS⟩
  · subst e
    have h' : Dat S' (.bl true) v := h
    unfold Dat at h'
    subst h'
    exact q H'
end NL

namespace NL
open PySem PySem.Spec L2
open PyProof.Rows hiding St

/-! ### typed data -/
abbrev Pc := Str × Int
def dP (p : Pc) : D := .tup [.str p.1, .int p.2]
def dC (c : List Pc) : D := .lst (c.map dP)
def dI (c : List Int) : D := .lst (c.map D.int)
def rng (lo c : Int) (n : Nat) : List Int := (List.range n).map fun (i : Nat) => lo + (i : Int) * c
theorem rngD_eq {lo c : Int} {n : Nat} : rngD lo c n = (rng lo c n).map D.int := by
  unfold rngD rng
  rw [List.map_map]
  rfl
theorem mem_rng {lo c k : Int} {n : Nat} (h : k ∈ rng lo c n) : ∃ i : Nat, i < n ∧ k = lo + (i : Int) * c := by
  unfold rng at h
  obtain ⟨i, hi, e⟩ := List.mem_map.mp h
  exact ⟨i, List.mem_range.mp hi, e.symm⟩
theorem rng_len {lo c : Int} {n : Nat} : (rng lo c n).length = n := by simp [rng]
theorem rng0 {lo c : Int} : rng lo c 0 = [] := rfl
theorem rng_succ {lo c : Int} {n : Nat} : rng lo c (n + 1) = lo :: rng (lo + c) c n := by
  unfold rng
  rw [List.range_succ_eq_map, List.map_cons, List.map_map]
  congr 1
  · simp
  · apply List.map_congr_left
    intro i _
    simp only [Function.comp, Int.natCast_succ]
    rw [Int.add_mul]
    omega
theorem kit1 : kitB "list" "list" = some true := by decide +kernel
theorem kit2 : kitB "tuple" "tuple" = some true := by decide +kernel
theorem kit3 : kitB "str" "str" = some true := by decide +kernel
theorem kit4 : kitB "int" "int" = some true := by decide +kernel
theorem kit5 : kitB "int" "bool" = some false := by decide +kernel
theorem kit6 : kitB "bool" "bool" = some true := by decide +kernel
theorem kit7 : kitB "bool" "int" = some true := by decide +kernel
theorem kit8 : kitB "str" "list" = some false := by decide +kernel
theorem kit9 : kitB "NoneType" "list" = some false := by decide +kernel
theorem kit10 : kitB "NoneType" "int" = some false := by decide +kernel
theorem kit11 : kitB "NoneType" "str" = some false := by decide +kernel
theorem kit12 : kitB "NoneType" "tuple" = some false := by decide +kernel
theorem kit13 : kitB "int" "str" = some false := by decide +kernel
theorem kit14 : kitB "int" "list" = some false := by decide +kernel
theorem kit15 : kitB "int" "tuple" = some false := by decide +kernel
theorem kit16 : kitB "bool" "str" = some false := by decide +kernel
theorem kit17 : kitB "bool" "list" = some false := by decide +kernel
theorem kit18 : kitB "bool" "tuple" = some false := by decide +kernel
theorem kit19 : kitB "str" "int" = some false := by decide +kernel
theorem kit20 : kitB "str" "bool" = some false := by decide +kernel
theorem kit21 : kitB "str" "tuple" = some false := by decide +kernel
theorem kit22 : kitB "list" "str" = some false := by decide +kernel
theorem kit23 : kitB "list" "int" = some false := by decide +kernel
theorem kit24 : kitB "list" "bool" = some false := by decide +kernel
theorem kit25 : kitB "list" "tuple" = some false := by decide +kernel
theorem kit26 : kitB "tuple" "str" = some false := by decide +kernel
theorem kit27 : kitB "tuple" "int" = some false := by decide +kernel
theorem kit28 : kitB "tuple" "bool" = some false := by decide +kernel
theorem kit29 : kitB "tuple" "list" = some false := by decide +kernel
theorem kit30 : kitB "NoneType" "bool" = some false := by decide +kernel
theorem kit31 : kitB "dict" "str" = some false := by decide +kernel
theorem kit32 : kitB "dict" "list" = some false := by decide +kernel
theorem kit33 : kitB "dict" "tuple" = some false := by decide +kernel
theorem kit34 : kitB "dict" "int" = some false := by decide +kernel
theorem kit35 : kitB "dict" "bool" = some false := by decide +kernel

theorem castN (n : Nat) : ((no_index (OfNat.ofNat n) : Nat) : Int) = OfNat.ofNat n := rfl
/-! ### places -/
theorem atI_in {α : Type} {xs : List α} {i : Int} (h0 : 0 ≤ i) (h : i < xs.length) : ∃ a, atI xs i = some a ∧ a ∈ xs := by
  have hi : i.toNat < xs.length := by omega
  refine ⟨xs[i.toNat], ?_, List.getElem_mem hi⟩
  have := atI_nat (List.getElem?_eq_getElem hi)
  rw [Int.toNat_of_nonneg h0] at this
  exact this
theorem atI_at {α : Type} {xs : List α} {i : Int} {j : Nat} (h : i = j) (hj : j < xs.length) : atI xs i = some xs[j] := by
  rw [h]
  exact atI_nat (List.getElem?_eq_getElem hj)
theorem atI_neg1 {α : Type} {xs : List α} : atI xs (-1) = xs.getLast? := by
  rcases List.eq_nil_or_concat xs with h | ⟨r, a, h⟩
  · rw [h]; rfl
  · rw [h]
    have := atI_last r a
    simpa using this
theorem atI_rev1 {α : Type} {xs : List α} : atI xs.reverse (-1) = xs.head? := by
  rw [atI_neg1, List.getLast?_reverse]

/-! ### texts by their signs -/
def tx (l : List Nat) : Str := ⟨l.toArray⟩
theorem tx_cps {l : List Nat} : (tx l).cps.toList = l := by simp [tx]
theorem tx_len {l : List Nat} : (tx l).length = l.length := by
  show l.toArray.size = _
  simp
theorem tx_app {a b : List Nat} : tx a ++ tx b = tx (a ++ b) := by
  show (⟨a.toArray ++ b.toArray⟩ : Str) = ⟨_⟩
  simp
theorem tx_of (s : Str) : s = tx s.cps.toList := by
  cases s
  simp [tx]
theorem tx_inj {a b : List Nat} : tx a = tx b ↔ a = b := by
  constructor
  · intro h
    rw [← tx_cps (l := a), h, tx_cps]
  · rintro rfl; rfl
theorem tx_one {c : Nat} : (⟨#[c]⟩ : Str) = tx [c] := rfl
theorem tx_nil : (⟨#[]⟩ : Str) = tx [] := rfl
theorem tx_cut {l : List Nat} {lo hi : Option Int} : cutS (tx l) lo hi = tx (cut l lo hi) := by
  unfold cutS cut
  rw [tx_cps, tx_len]
  rfl
theorem tx_signs {l : List Nat} : signs (tx l) = l.map fun c => .str (tx [c]) := by
  unfold signs
  rw [tx_cps]
  rfl
theorem tx_rep {n : Nat} {l : List Nat} : srep n (tx l) = tx (List.replicate n l).flatten := by
  unfold srep
  rw [tx_cps]
  rfl
theorem lit_empty : Str.ofString "" = tx [] := by decide +kernel
theorem az_cps : (Str.ofString "abcdefghijklmnopqrstuvwxyz").cps.toList = (List.range 26).map fun i => 97 + i := by decide +kernel
theorem abcz_cps : (Str.ofString "abcz").cps.toList = [97, 98, 99, 122] := by decide +kernel
theorem tx_ok {l : List Nat} (h : ∀ c ∈ l, 97 ≤ c ∧ c ≤ 122) : PyData.strOk (tx l) = true := by
  simp only [PyData.strOk, tx, List.all_toArray, List.all_eq_true]
  intro c hc
  have := h c hc
  simp
  omega
/-! ### products that are small -/
theorem log2_lt {i : Int} {n : Nat} (h : i.natAbs < 2 ^ (n + 1)) : i.natAbs.log2 ≤ n := by
  rcases Nat.eq_zero_or_pos i.natAbs with z | z
  · rw [z]; simp
  · have := (Nat.log2_lt (by omega)).mpr h
    omega
theorem mulWn {i j : Int} {a b : Nat} (h1 : i.natAbs < 2 ^ (a + 1)) (h2 : j.natAbs < 2 ^ (b + 1)) (h : a + b < 1000000) : CMulW i j := by
  have x := log2_lt h1
  have y := log2_lt h2
  show _ + _ < 1000000
  omega
theorem mulW {i j : Int} (h1 : i.natAbs < 2 ^ 201) (h2 : j.natAbs < 2 ^ 201) : CMulW i j := by
  have a := log2_lt h1
  have b := log2_lt h2
  show _ + _ < 1000000
  omega
theorem divW {i j : Int} (h0 : 0 < j) (h2 : j.natAbs < 2 ^ 201) : CDivW i j := ⟨h0, by have := log2_lt h2; omega⟩

theorem divW_eq {i j : Int} (h0 : 0 < j) (h2 : j < 1606938044258990275541962092341162602522202993782792835301376) : CDivW i j = True := by
  have e : (2 : Nat) ^ 201 = 3213876088517980551083924184682325205044405987565585670602752 := by decide
  exact eq_true (divW h0 (by omega))
theorem mulW_eq {i j : Int} (h0 : -1606938044258990275541962092341162602522202993782792835301376 < i) (h1 : i < 1606938044258990275541962092341162602522202993782792835301376) (h2 : -1606938044258990275541962092341162602522202993782792835301376 < j) (h3 : j < 1606938044258990275541962092341162602522202993782792835301376) : CMulW i j = True := by
  have e : (2 : Nat) ^ 201 = 3213876088517980551083924184682325205044405987565585670602752 := by decide
  exact eq_true (mulW (by omega) (by omega))
theorem divWs {i j : Int} (h0 : 0 < j) (h2 : j < 1000000000000) : CDivW i j := of_eq_true (divW_eq h0 (by omega))
/-! ### data that is told apart -/
def OkC (c : List Pc) : Prop := ∀ p ∈ c, PyData.strOk p.1 = true
theorem nb_dP {p : Pc} {n : Nat} (h : PyData.strOk p.1 = true) : nb (n + 2) (dP p) = true := by simp [dP, nb, h]
theorem nb_dC {c : List Pc} {n : Nat} (h : OkC c) : nb (n + 3) (dC c) = true := by
  simp only [dC, nb, List.all_map, List.all_eq_true]
  exact fun p hp => nb_dP (h p hp)
theorem dP_inj {p q : Pc} : dP p = dP q ↔ p = q := by
  constructor
  · intro h
    simp [dP] at h
    exact Prod.ext h.1 h.2
  · rintro rfl; rfl
theorem map_inj {α β : Type} {f : α → β} (hf : ∀ a b, f a = f b ↔ a = b) : ∀ {xs ys : List α}, xs.map f = ys.map f ↔ xs = ys
  | [], [] => by simp
  | [], _ :: _ => by simp
  | _ :: _, [] => by simp
  | x :: xs, y :: ys => by
    simp only [List.map_cons, List.cons.injEq, hf, map_inj hf]
theorem dC_inj {a b : List Pc} : dC a = dC b ↔ a = b := by
  simp only [dC, D.lst.injEq]
  exact map_inj fun _ _ => dP_inj
theorem deq_dec {a b : D} {p : Prop} [Decidable p] (h : a = b ↔ p) : deq a b = decide p := by
  unfold deq
  rw [Bool.eq_iff_iff]
  simp [h]
theorem deq_dC {a b : List Pc} : deq (dC a) (dC b) = decide (a = b) := deq_dec dC_inj
theorem map_snocI {xs : List Int} {y : Int} : List.map D.int xs ++ [D.int y] = List.map D.int (xs ++ [y]) := by simp
theorem deqC {a b : List Pc} : deq (.lst (a.map dP)) (.lst (b.map dP)) = decide (a = b) := deq_dC
theorem deq_self {d : D} : deq d d = true := by simp [deq]
theorem nbC {c : List Pc} (h : OkC c) : nb 20 (.lst (c.map dP)) = true := nb_dC (n := 17) h
theorem rep_map {α β : Type} {f : α → β} {n : Nat} {xs : List α} : (List.replicate n (xs.map f)).flatten = ((List.replicate n xs).flatten).map f := by
  induction n with
  | zero => rfl
  | succ n ih => simp only [List.replicate_succ, List.flatten_cons, ih, List.map_append]
theorem rep_len {α : Type} {n : Nat} {xs : List α} : (List.replicate n xs).flatten.length = n * xs.length := by
  induction n with
  | zero => simp
  | succ n ih => rw [List.replicate_succ, List.flatten_cons, List.length_append, ih, Nat.succ_mul]; omega
theorem rep_mem {α : Type} {n : Nat} {xs : List α} {a : α} (h : a ∈ (List.replicate n xs).flatten) : a ∈ xs := by
  obtain ⟨l, hl, ha⟩ := List.mem_flatten.mp h
  rw [List.mem_replicate] at hl
  rw [hl.2] at ha
  exact ha
theorem nls_dP : ∀ {c : List Pc}, nls (c.map dP) = true
  | [] => rfl
  | p :: c => by simp [nls, nl, dP, nls_dP]
/-- one letter -/
def isNail (s : Str) : Prop := ∃ ch, s = tx [ch] ∧ 97 ≤ ch ∧ ch ≤ 122
theorem isNail.ok {s : Str} (h : isNail s) : PyData.strOk s = true := by
  obtain ⟨ch, rfl, h1, h2⟩ := h
  simp [PyData.strOk, tx]
  omega
/-- a good piece: a nail, turns of at most so many -/
def Gd (b : Int) (p : Pc) : Prop := isNail p.1 ∧ -b ≤ p.2 ∧ p.2 ≤ b
def Gds (b : Int) (c : List Pc) : Prop := ∀ p ∈ c, Gd b p
theorem Gds.ok {b : Int} {c : List Pc} (h : Gds b c) : OkC c := fun p hp => (h p hp).1.ok
theorem Gds.nil {b : Int} : Gds b [] := fun _ h => by cases h
theorem Gds.app {b : Int} {c d : List Pc} (h : Gds b c) (g : Gds b d) : Gds b (c ++ d) := fun p hp => (List.mem_append.mp hp).elim (h p) (g p)
theorem Gds.sub {b : Int} {c d : List Pc} (h : Gds b c) (g : ∀ p ∈ d, p ∈ c) : Gds b d := fun p hp => h p (g p hp)
theorem Gds.mono {b b' : Int} {c : List Pc} (h : Gds b c) (g : b ≤ b') : Gds b' c := fun p hp => ⟨(h p hp).1, by have := (h p hp).2; omega, by have := (h p hp).2; omega⟩
theorem cut_mem {α : Type} {xs : List α} {l h : Option Int} {a : α} (m : a ∈ cut xs l h) : a ∈ xs := List.mem_of_mem_drop (List.mem_of_mem_take m)
theorem cut_len {α : Type} {xs : List α} {l h : Option Int} : (cut xs l h).length ≤ xs.length := by
  unfold cut
  rw [List.length_take, List.length_drop]
  omega
theorem cut_to {α : Type} {xs : List α} {n : Int} (h0 : 0 ≤ n) : cut xs none (some n) = xs.take n.toNat := by
  unfold cut
  rw [HT.sIx_none]
  have e : HT.sIx xs.length xs.length (some n) = min n.toNat xs.length := by
    have := HT.sIx_nat xs.length xs.length n.toNat
    rw [Int.toNat_of_nonneg h0] at this
    exact this
  rw [e, List.drop_zero, Nat.sub_zero]
  rcases Nat.le_total n.toNat xs.length with z | z
  · rw [Nat.min_eq_left z]
  · rw [Nat.min_eq_right z, List.take_of_length_le (Nat.le_refl _), List.take_of_length_le z]
theorem cut_from {α : Type} {xs : List α} {n : Int} (h0 : 0 ≤ n) : cut xs (some n) none = xs.drop n.toNat := by
  unfold cut
  rw [HT.sIx_none]
  have e : HT.sIx xs.length 0 (some n) = min n.toNat xs.length := by
    have := HT.sIx_nat xs.length 0 n.toNat
    rw [Int.toNat_of_nonneg h0] at this
    exact this
  rw [e]
  rcases Nat.le_total n.toNat xs.length with z | z
  · rw [Nat.min_eq_left z, List.take_of_length_le (by rw [List.length_drop]; omega)]
  · rw [Nat.min_eq_right z, List.drop_of_length_le (Nat.le_refl _), List.drop_of_length_le z]
    simp
theorem cut_last {α : Type} {xs : List α} {y : α} : cut (xs ++ [y]) (some (-1)) none = [y] := by
  unfold cut
  rw [HT.sIx_none]
  have e : HT.sIx (xs ++ [y]).length 0 (some (-1)) = xs.length := by
    show (if (-1 : Int) < 0 then ((-1 : Int) + ((xs ++ [y]).length : Int)).toNat else min (-1 : Int).toNat (xs ++ [y]).length) = _
    rw [if_pos (by decide), List.length_append]
    simp
    omega
  rw [e]
  simp
theorem cut_nil {α : Type} {lo hi : Option Int} : cut ([] : List α) lo hi = [] := by simp [cut]
theorem cut_fromTo {α : Type} {xs : List α} {m n : Int} (h0 : 0 ≤ m) (h1 : 0 ≤ n) : cut xs (some m) (some n) = (xs.take n.toNat).drop m.toNat := by
  unfold cut
  have e : HT.sIx xs.length 0 (some m) = min m.toNat xs.length := by
    have := HT.sIx_nat xs.length 0 m.toNat
    rw [Int.toNat_of_nonneg h0] at this
    exact this
  have e2 : HT.sIx xs.length xs.length (some n) = min n.toNat xs.length := by
    have := HT.sIx_nat xs.length xs.length n.toNat
    rw [Int.toNat_of_nonneg h1] at this
    exact this
  rw [e, e2, List.drop_take]
  apply List.ext_getElem?
  intro i
  rw [List.getElem?_take, List.getElem?_take, List.getElem?_drop, List.getElem?_drop]
  rcases Nat.le_total m.toNat xs.length with z | z
  · rw [Nat.min_eq_left z]
    rcases Nat.le_total n.toNat xs.length with z2 | z2
    · rw [Nat.min_eq_left z2]
    · rw [Nat.min_eq_right z2]
      split <;> split <;> first | rfl | omega | (rw [List.getElem?_eq_none (by omega)]) | (symm; rw [List.getElem?_eq_none (by omega)])
  · rw [Nat.min_eq_right z, List.getElem?_eq_none (by omega : xs.length ≤ xs.length + i), List.getElem?_eq_none (by omega : xs.length ≤ m.toNat + i)]
    split <;> split <;> rfl
/-- a comprehension that takes each item to one -/
theorem compL_map {α : Type} {g : WG} {we : WE} {ρ : Ev} {Q : List D → Prop} (f : α → D) (h : α → D) (he : ∀ a (Q' : D → Prop), Q' (h a) → g (f a) ρ fun ρ2 => we X0 ρ2 Q') : ∀ (xs : List α) (acc : List D), acc.length + xs.length ≤ sizeLine → Q (acc ++ xs.map h) → compL g wtYes we ρ Q (xs.map f) acc
  | [], acc, _, q => by simpa [compL] using q
  | a :: xs, acc, hl, q => by
    simp only [List.map_cons, compL, wtYes, Br_true]
    refine he a _ ⟨by simp at hl; omega, compL_map f h he xs (acc ++ [h a]) (by simp at hl ⊢; omega) (by simpa using q)⟩
theorem compL_map' {α : Type} {g : WG} {we : WE} {ρ : Ev} {Q : List D → Prop} (f : α → D) (h : α → D) : ∀ (xs : List α) (acc : List D), (∀ a ∈ xs, ∀ (Q' : D → Prop), Q' (h a) → g (f a) ρ fun ρ2 => we X0 ρ2 Q') → acc.length + xs.length ≤ sizeLine → Q (acc ++ xs.map h) → compL g wtYes we ρ Q (xs.map f) acc
  | [], acc, _, _, q => by simpa [compL] using q
  | a :: xs, acc, he, hl, q => by
    simp only [List.map_cons, compL, wtYes, Br_true]
    refine he a (by simp) _ ⟨by simp at hl; omega, compL_map' f h xs (acc ++ [h a]) (fun b hb => he b (by simp [hb])) (by simp at hl ⊢; omega) (by simpa using q)⟩
theorem compL_filter {α : Type} {g : WG} {wt : WT} {we : WE} {ρ : Ev} {Q : List D → Prop} (f : α → D) (h : α → D) (t : α → Bool) : ∀ (xs : List α) (acc : List D), (∀ a ∈ xs, ∀ (Q' : Bool → Ev → Prop), (∀ ρ2, (∀ (Q2 : D → Prop), Q2 (h a) → we X0 ρ2 Q2) → Q' (t a) ρ2) → g (f a) ρ fun ρ2 => wt X0 ρ2 fun b => Q' b ρ2) → acc.length + xs.length ≤ sizeLine → Q (acc ++ (xs.filter t).map h) → compL g wt we ρ Q (xs.map f) acc
  | [], acc, _, _, q => by simpa [compL] using q
  | a :: xs, acc, he, hl, q => by
    simp only [List.map_cons, compL]
    refine he a (by simp) (fun b ρ2 => Br b (we X0 ρ2 fun y => acc.length < sizeLine ∧ compL g wt we ρ Q (xs.map f) (acc ++ [y])) (compL g wt we ρ Q (xs.map f) acc) ⟨⟩ ⟨⟩) fun ρ2 hw => ?_
    have ih := fun acc => compL_filter (Q := Q) f h t xs acc (fun b hb => he b (by simp [hb]))
    cases ht : t a with
    | true =>
      rw [Br_true]
      refine hw _ ⟨by simp at hl; omega, ih _ (by simp at hl ⊢; omega) ?_⟩
      rw [List.filter_cons, if_pos ht] at q
      simpa using q
    | false =>
      rw [Br_false]
      refine ih _ (by simp at hl ⊢; omega) ?_
      rw [List.filter_cons, if_neg (by simp [ht])] at q
      exact q
/-- a loop, by a word over what is left and the slots -/
theorem loop_ind {α S : Type} {g : WG} {wb : WS} {q : DEnds} (f : α → D) (env : S → Ev) (P : List α → S → Prop) (hnil : ∀ s, P [] s → q.nx (env s))
    (hstep : ∀ a r s (L : Ev → Prop), P (a :: r) s → (∀ s', P r s' → L (env s')) → g (f a) (env s) fun ρ1 => wb ⟨L, q.rt, q.nx, L, q.ex⟩ ρ1) : ∀ (xs : List α) (s0 : S), P xs s0 → loopL g wb q (xs.map f) (env s0)
  | [], s, h => hnil s h
  | a :: r, s, h => hstep a r s _ h fun s' h' => loop_ind f env P hnil hstep r s' h'
/-- while, by a word over the slots and a measure -/
theorem while_ind {S : Type} {wt : WT} {wb : WS} {q : DEnds} (env : S → Ev) (P : Nat → S → Prop)
    (hstep : ∀ m s (L : Ev → Prop), P m s → (∀ m' s', m' < m → P m' s' → L (env s')) → wt q.ex (env s) fun b => Br b (wb { q with nx := L, ct := L, bk := q.nx } (env s)) (q.nx (env s)) ⟨⟩ ⟨⟩)
    (m0 : Nat) (s0 : S) (h0 : P m0 s0) : wWhile wt wb q (env s0) := by
  refine ⟨fun m ρ => ∃ s, ρ = env s ∧ P m s, ⟨m0, s0, rfl, h0⟩, ?_⟩
  rintro m ρ ⟨s, rfl, h⟩
  exact hstep m s (fun ρ' => ∃ m', m' < m ∧ ∃ s, ρ' = env s ∧ P m' s) h fun m' s' hm hp => ⟨m', hm, s', rfl, hp⟩
def lawSign (s : Str) (i : Int) : Str := tx [(atI s.cps.toList i).getD 97]
theorem lawSign_at {s : Str} {i : Int} (h0 : 0 ≤ i) (h1 : i < s.cps.toList.length) (hs : ∀ c ∈ s.cps.toList, 97 ≤ c ∧ c ≤ 122) : ∃ c, atI s.cps.toList i = some c ∧ tx [c] = lawSign s i ∧ isNail (lawSign s i) := by
  obtain ⟨c, e, m⟩ := atI_in h0 h1
  refine ⟨c, e, ?_, ?_⟩
  · unfold lawSign; rw [e]; rfl
  · refine ⟨c, ?_, hs c m⟩
    unfold lawSign; rw [e]; rfl
theorem abcz_ok : ∀ c ∈ ("abcz" : Str).cps.toList, 97 ≤ c ∧ c ≤ 122 := by decide +kernel
theorem abcz_len : ("abcz" : Str).cps.toList.length = 4 := by decide +kernel
theorem az_ok : ∀ c ∈ ("abcdefghijklmnopqrstuvwxyz" : Str).cps.toList, 97 ≤ c ∧ c ≤ 122 := by decide +kernel
theorem az_len : ("abcdefghijklmnopqrstuvwxyz" : Str).cps.toList.length = 26 := by decide +kernel
theorem abcz_sz : ("abcz" : Str).length ≤ 16777216 := by decide +kernel
theorem az_sz : ("abcdefghijklmnopqrstuvwxyz" : Str).length ≤ 16777216 := by decide +kernel
/-- a nail as a text -/
def dS (x : Nat) : D := .str (tx [x])
/-- a row of letters -/
def Lt (l : List Nat) : Prop := ∀ c ∈ l, 97 ≤ c ∧ c ≤ 122
theorem az_at {i : Int} (h0 : 0 ≤ i) (h1 : i < 26) : atI (Str.ofString "abcdefghijklmnopqrstuvwxyz").cps.toList i = some (97 + i.toNat) := by
  rw [az_cps, atI_at (xs := (List.range 26).map fun i => 97 + i) (i := i) (j := i.toNat) (by omega) (by simp; omega)]
  simp
theorem lawSign_az {i : Int} (h0 : 0 ≤ i) (h1 : i < 26) : lawSign (Str.ofString "abcdefghijklmnopqrstuvwxyz") i = tx [97 + i.toNat] := by
  unfold lawSign
  rw [az_at h0 h1]
  rfl
end NL

/-! Cords as words: putting together at the front, runs, and that it is one whatever is first. -/
namespace NL
open PySem PySem.Spec L2
open PyProof.Rows hiding St

/-- a piece put ahead of runs -/
def ps (p : Pc) (w : List Pc) : List Pc := if p.2 = 0 then w else match w with
  | [] => [p]
  | l :: r => if l.1 = p.1 then (if p.2 + l.2 = 0 then r else (p.1, p.2 + l.2) :: r) else p :: l :: r
def act (c w : List Pc) : List Pc := c.foldr ps w
/-- the runs -/
def nf (c : List Pc) : List Pc := act c []
/-- no turns 0, neighbours unlike -/
def Red : List Pc → Prop
  | [] => True
  | [p] => p.2 ≠ 0
  | p :: q :: r => p.2 ≠ 0 ∧ p.1 ≠ q.1 ∧ Red (q :: r)
theorem Red.tail {p : Pc} {r : List Pc} (h : Red (p :: r)) : Red r := by
  cases r with
  | nil => trivial
  | cons q r => exact h.2.2
theorem Red.head {p : Pc} {r : List Pc} (h : Red (p :: r)) : p.2 ≠ 0 := by
  cases r with
  | nil => exact h
  | cons q r => exact h.1
theorem Red.mk {p : Pc} {r : List Pc} (h0 : p.2 ≠ 0) (h1 : ∀ q, r.head? = some q → p.1 ≠ q.1) (h : Red r) : Red (p :: r) := by
  cases r with
  | nil => exact h0
  | cons q r => exact ⟨h0, h1 q rfl, h⟩
theorem Red.ne {p q : Pc} {r : List Pc} (h : Red (p :: q :: r)) : p.1 ≠ q.1 := h.2.1
theorem Red.swap {p q : Pc} {r : List Pc} (h : Red (p :: r)) (e : q.1 = p.1) (h0 : q.2 ≠ 0) : Red (q :: r) := by
  cases r with
  | nil => exact h0
  | cons s r => exact ⟨h0, by rw [e]; exact h.2.1, h.2.2⟩
theorem ps_red {p : Pc} {w : List Pc} (h : Red w) : Red (ps p w) := by
  unfold ps
  split
  · exact h
  · rename_i h0
    cases w with
    | nil => exact h0
    | cons l r =>
      simp only
      split
      · rename_i e
        split
        · exact h.tail
        · rename_i hs
          exact h.swap e.symm hs
      · rename_i e
        exact ⟨h0, fun z => e z.symm, h⟩
theorem ps_zero {n : Str} {w : List Pc} : ps (n, 0) w = w := by simp [ps]
theorem ps_nil {p : Pc} (h : p.2 ≠ 0) : ps p [] = [p] := by simp [ps, h]
theorem ps_other {p l : Pc} {r : List Pc} (h : p.2 ≠ 0) (e : l.1 ≠ p.1) : ps p (l :: r) = p :: l :: r := by simp [ps, h, e]
theorem ps_same {p l : Pc} {r : List Pc} (h : p.2 ≠ 0) (e : l.1 = p.1) (s : p.2 + l.2 ≠ 0) : ps p (l :: r) = (p.1, p.2 + l.2) :: r := by simp [ps, h, e, s]
theorem ps_gone {p l : Pc} {r : List Pc} (h : p.2 ≠ 0) (e : l.1 = p.1) (s : p.2 + l.2 = 0) : ps p (l :: r) = r := by simp [ps, h, e, s]
/-- two pieces of one nail -/
theorem ps_ps {n : Str} {a b : Int} {w : List Pc} (hw : Red w) : ps (n, a) (ps (n, b) w) = ps (n, a + b) w := by
  by_cases ha : a = 0
  · subst ha; rw [ps_zero, Int.zero_add]
  by_cases hb : b = 0
  · subst hb; rw [ps_zero, Int.add_zero]
  cases w with
  | nil =>
    rw [ps_nil (p := (n, b)) hb]
    by_cases hs : a + b = 0
    · rw [ps_gone (p := (n, a)) (l := (n, b)) ha rfl hs, hs, ps_zero]
    · rw [ps_same (p := (n, a)) (l := (n, b)) ha rfl hs, ps_nil (p := (n, a + b)) hs]
  | cons l r =>
    by_cases e : l.1 = n
    · by_cases h1 : b + l.2 = 0
      · rw [ps_gone (p := (n, b)) hb e h1]
        have el : l.2 ≠ 0 := hw.head
        have hab : a + b + l.2 = a := by omega
        by_cases hs : a + b = 0
        · have : a = l.2 := by omega
          rw [hs, ps_zero, this]
          cases r with
          | nil => rw [ps_nil (p := (n, l.2)) el]; congr 1; exact Prod.ext e.symm rfl
          | cons q r =>
            have hq : q.1 ≠ l.1 := fun z => hw.2.1 z.symm
            rw [ps_other (p := (n, l.2)) el (by rw [← e]; exact hq)]
            congr 1
            exact Prod.ext e.symm rfl
        · rw [ps_same (p := (n, a + b)) hs e (by show a + b + l.2 ≠ 0; rw [hab]; exact ha)]
          show ps (n, a) r = (n, a + b + l.2) :: r
          rw [hab]
          cases r with
          | nil => rw [ps_nil (p := (n, a)) ha]
          | cons q r =>
            have hq : q.1 ≠ l.1 := fun z => hw.2.1 z.symm
            rw [ps_other (p := (n, a)) ha (by rw [← e]; exact hq)]
      · rw [ps_same (p := (n, b)) hb e h1]
        by_cases h2 : a + (b + l.2) = 0
        · rw [ps_gone (p := (n, a)) (l := (n, b + l.2)) ha rfl h2]
          by_cases hs : a + b = 0
          · exact absurd (show l.2 = 0 by omega) hw.head
          · rw [ps_gone (p := (n, a + b)) hs e (by show a + b + l.2 = 0; omega)]
        · rw [ps_same (p := (n, a)) (l := (n, b + l.2)) ha rfl h2]
          by_cases hs : a + b = 0
          · rw [hs, ps_zero]
            congr 1
            refine Prod.ext e.symm ?_
            show a + (b + l.2) = l.2
            omega
          · rw [ps_same (p := (n, a + b)) hs e (by show a + b + l.2 ≠ 0; omega)]
            congr 1
            refine Prod.ext rfl ?_
            show a + (b + l.2) = a + b + l.2
            omega
    · rw [ps_other (p := (n, b)) hb e]
      by_cases hs : a + b = 0
      · rw [ps_gone (p := (n, a)) (l := (n, b)) ha rfl hs, hs, ps_zero]
      · rw [ps_same (p := (n, a)) (l := (n, b)) ha rfl hs, ps_other (p := (n, a + b)) hs e]
theorem act_red {c w : List Pc} (h : Red w) : Red (act c w) := by
  induction c with
  | nil => exact h
  | cons p c ih => exact ps_red ih
theorem act_app (a b w : List Pc) : act (a ++ b) w = act a (act b w) := by simp [act, List.foldr_append]
theorem act_cons (p : Pc) (c w : List Pc) : act (p :: c) w = ps p (act c w) := rfl
theorem act_nil (w : List Pc) : act [] w = w := rfl
theorem nf_red (c : List Pc) : Red (nf c) := act_red (c := c) (w := []) trivial
theorem red_nf {w : List Pc} (h : Red w) : nf w = w := by
  induction w with
  | nil => rfl
  | cons p r ih =>
    show ps p (nf r) = p :: r
    rw [ih h.tail]
    cases r with
    | nil => exact ps_nil h
    | cons q r => exact ps_other h.1 fun z => h.2.1 z.symm
theorem nf_nf (c : List Pc) : nf (nf c) = nf c := red_nf (nf_red c)
theorem nf_app (a b : List Pc) : nf (a ++ b) = act a (nf b) := act_app a b []
/-- two cords that do one thing to runs -/
def Eqv (a b : List Pc) : Prop := ∀ w, Red w → act a w = act b w
theorem Eqv.refl (a : List Pc) : Eqv a a := fun _ _ => rfl
theorem Eqv.symm {a b : List Pc} (h : Eqv a b) : Eqv b a := fun w r => (h w r).symm
theorem Eqv.trans {a b c : List Pc} (h : Eqv a b) (g : Eqv b c) : Eqv a c := fun w r => (h w r).trans (g w r)
theorem Eqv.app {a b c d : List Pc} (h : Eqv a b) (g : Eqv c d) : Eqv (a ++ c) (b ++ d) := fun w r => by
  rw [act_app, act_app, g w r, h _ (act_red r)]
theorem Eqv.nf {a b : List Pc} (h : Eqv a b) : nf a = nf b := h [] trivial
/-- a cord does what its runs do -/
theorem eqv_nf (c : List Pc) : Eqv c (nf c) := by
  induction c with
  | nil => exact .refl _
  | cons p c ih =>
    intro w r
    rw [act_cons, ih w r]
    show ps p (act (nf c) w) = act (ps p (nf c)) w
    have hr := nf_red c
    generalize nf c = u at hr
    by_cases h0 : p.2 = 0
    · have : p = (p.1, 0) := Prod.ext rfl h0
      rw [this, ps_zero, ps_zero]
    cases u with
    | nil => rw [ps_nil h0]; rfl
    | cons l t =>
      by_cases e : l.1 = p.1
      · have e1 : l = (p.1, l.2) := Prod.ext e rfl
        have key : ps p (act (l :: t) w) = ps (p.1, p.2 + l.2) (act t w) := by
          rw [act_cons, e1]
          exact ps_ps (n := p.1) (a := p.2) (b := l.2) (act_red r)
        rw [key]
        by_cases hs : p.2 + l.2 = 0
        · rw [hs, ps_zero, ps_gone h0 e hs]
        · rw [ps_same h0 e hs]; rfl
      · rw [ps_other h0 e]; rfl
theorem nf_eqv {a b : List Pc} (h : nf a = nf b) : Eqv a b := (eqv_nf a).trans (by rw [h]; exact (eqv_nf b).symm)
theorem eqv_iff' {a b : List Pc} : Eqv a b ↔ nf a = nf b := ⟨Eqv.nf, nf_eqv⟩
theorem nf_app2 (a b : List Pc) : nf (a ++ b) = nf (nf a ++ nf b) := ((eqv_nf a).app (eqv_nf b)).nf
theorem nf_appR (a b : List Pc) : nf (a ++ b) = nf (a ++ nf b) := ((Eqv.refl a).app (eqv_nf b)).nf
theorem nf_appL (a b : List Pc) : nf (a ++ b) = nf (nf a ++ b) := ((eqv_nf a).app (Eqv.refl b)).nf
theorem nf_congr {a b c d : List Pc} (h : nf a = nf b) (g : nf c = nf d) : nf (a ++ c) = nf (b ++ d) := ((nf_eqv h).app (nf_eqv g)).nf
/-! ### one after the other, at the back -/
theorem Red.app_one : ∀ {w : List Pc} {p : Pc}, Red w → p.2 ≠ 0 → (∀ q, w.getLast? = some q → q.1 ≠ p.1) → Red (w ++ [p])
  | [], p, _, h, _ => h
  | [q], p, h, h0, h1 => ⟨h, h1 q rfl, h0⟩
  | q :: s :: r, p, h, h0, h1 => ⟨h.1, h.2.1, Red.app_one (w := s :: r) h.2.2 h0 fun t ht => h1 t (by rw [List.getLast?_cons_cons]; exact ht)⟩
theorem Red.rev : ∀ {w : List Pc}, Red w → Red w.reverse
  | [], _ => trivial
  | [p], h => h
  | p :: q :: r, h => by
    rw [List.reverse_cons]
    refine Red.app_one (Red.rev h.2.2) h.1 fun t ht => ?_
    rw [List.getLast?_reverse] at ht
    cases ht
    exact fun z => h.2.1 z.symm
def stk (st : List Pc) (p : Pc) : List Pc := ps p st
/-- the stack (its top first) behind some pieces does what they do -/
theorem stk_act : ∀ (c st : List Pc), Red st → Red (c.foldl stk st) ∧ ∀ w, Red w → act (c.foldl stk st).reverse w = act (st.reverse ++ c) w
  | [], st, h => ⟨h, fun w r => by simp⟩
  | p :: c, st, h => by
    obtain ⟨h1, h2⟩ := stk_act c (stk st p) (ps_red h)
    refine ⟨h1, fun w r => ?_⟩
    show act (List.foldl stk (stk st p) c).reverse w = _
    rw [h2 w r, act_app, act_app]
    show act (ps p st).reverse (act c w) = act st.reverse (ps p (act c w))
    have hr : Red (act c w) := act_red r
    generalize act c w = u at hr
    by_cases h0 : p.2 = 0
    · have : p = (p.1, 0) := Prod.ext rfl h0
      rw [this, ps_zero, ps_zero]
    cases st with
    | nil => rw [ps_nil h0]; rfl
    | cons l t =>
      by_cases e : l.1 = p.1
      · have e1 : l = (p.1, l.2) := Prod.ext e rfl
        have key : act (l :: t).reverse (ps p u) = act t.reverse (ps (p.1, p.2 + l.2) u) := by
          rw [List.reverse_cons, act_app]
          congr 1
          show ps l (ps p u) = _
          rw [e1]
          have := ps_ps (n := p.1) (a := l.2) (b := p.2) hr
          rw [show p.2 + l.2 = l.2 + p.2 by omega]
          exact this
        rw [key]
        by_cases hs : p.2 + l.2 = 0
        · rw [hs, ps_zero, ps_gone h0 e hs]
        · rw [ps_same h0 e hs, List.reverse_cons, act_app]; rfl
      · rw [ps_other h0 e, List.reverse_cons, act_app]; rfl
/-- the runs, put together from the beginning -/
def short (c : List Pc) : List Pc := (c.foldl stk []).reverse
theorem short_nf (c : List Pc) : short c = nf c := by
  obtain ⟨h1, h2⟩ := stk_act c [] trivial
  have h3 := h2 [] trivial
  have h4 := red_nf h1.rev
  show (c.foldl stk []).reverse = nf c
  rw [← h4]
  exact h3
/-- the runs, put together from the end: a stack, its top first -/
theorem end_nf (c : List Pc) : c.reverse.foldl stk [] = nf c := by
  rw [List.foldl_reverse]
  rfl
theorem stk_len : ∀ (c st : List Pc), (c.foldl stk st).length ≤ c.length + st.length
  | [], st => by simp
  | p :: c, st => by
    have h := stk_len c (stk st p)
    have : (stk st p).length ≤ st.length + 1 := by
      unfold stk ps
      split
      · omega
      · split
        · simp
        · split
          · split <;> simp <;> omega
          · simp
    simp only [List.foldl_cons, List.length_cons]
    omega
theorem nf_len (c : List Pc) : (nf c).length ≤ c.length := by
  have := stk_len c []
  rw [← short_nf]
  simpa [short] using this
theorem ps_mem {p q : Pc} {w : List Pc} (h : q ∈ ps p w) : q ∈ w ∨ q.1 = p.1 := by
  unfold ps at h
  split at h
  · exact .inl h
  · split at h
    · simp at h; exact .inr (by rw [h])
    · split at h
      · split at h
        · exact .inl (List.mem_cons_of_mem _ h)
        · rcases List.mem_cons.mp h with e | e
          · exact .inr (by rw [e])
          · exact .inl (List.mem_cons_of_mem _ e)
      · rcases List.mem_cons.mp h with e | e
        · exact .inr (by rw [e])
        · exact .inl e
theorem nf_nails {c : List Pc} {q : Pc} (h : q ∈ nf c) : ∃ p ∈ c, q.1 = p.1 := by
  induction c with
  | nil => cases h
  | cons p c ih =>
    rcases ps_mem (p := p) (w := nf c) h with e | e
    · obtain ⟨r, hr, e⟩ := ih e
      exact ⟨r, List.mem_cons_of_mem _ hr, e⟩
    · exact ⟨p, List.mem_cons_self, e⟩
theorem nf_ok {c : List Pc} (h : OkC c) : OkC (nf c) := fun q hq => by
  obtain ⟨p, hp, e⟩ := nf_nails hq
  rw [e]
  exact h p hp
/-! ### the contrary -/
def con (c : List Pc) : List Pc := c.reverse.map fun p => (p.1, -p.2)
theorem con_con (c : List Pc) : con (con c) = c := by
  unfold con
  rw [← List.map_reverse, List.reverse_reverse, List.map_map]
  conv => rhs; rw [← List.map_id c]
  apply List.map_congr_left
  intro p _
  simp
theorem con_app (a b : List Pc) : con (a ++ b) = con b ++ con a := by simp [con]
theorem con_cons (p : Pc) (c : List Pc) : con (p :: c) = con c ++ [(p.1, -p.2)] := by simp [con]
theorem con_len (c : List Pc) : (con c).length = c.length := by simp [con]
theorem eqv_one (p : Pc) : Eqv ([p] ++ con [p]) [] := fun w r => by
  show ps p (ps (p.1, -p.2) w) = w
  have := ps_ps (n := p.1) (a := p.2) (b := -p.2) r
  rw [show p.2 + -p.2 = 0 by omega, ps_zero] at this
  exact this
theorem eqv_con (c : List Pc) : Eqv (c ++ con c) [] := by
  induction c with
  | nil => exact .refl _
  | cons p c ih =>
    rw [con_cons]
    have e : p :: c ++ (con c ++ [(p.1, -p.2)]) = [p] ++ ((c ++ con c) ++ [(p.1, -p.2)]) := by simp
    rw [e]
    exact (((Eqv.refl [p]).app (ih.app (.refl _))).trans (by simpa [con] using eqv_one p))
theorem eqv_con' (c : List Pc) : Eqv (con c ++ c) [] := by
  have := eqv_con (con c)
  rwa [con_con] at this
theorem nf_con (c : List Pc) : nf (c ++ con c) = [] := (eqv_con c).nf
theorem nf_con' (c : List Pc) : nf (con c ++ c) = [] := (eqv_con' c).nf
theorem nf_mid {u v : List Pc} (l r : List Pc) (h : Eqv u v) : nf (l ++ u ++ r) = nf (l ++ v ++ r) := (((Eqv.refl l).app h).app (.refl r)).nf
theorem eqv_mid {l r u v : List Pc} (h : nf (l ++ u ++ r) = nf (l ++ v ++ r)) : Eqv u v := by
  have e := nf_eqv h
  have key : ∀ z : List Pc, Eqv (con l ++ (l ++ z ++ r) ++ con r) z := fun z => by
    have h1 := ((eqv_con' l).app (Eqv.refl z)).app (eqv_con r)
    simp only [List.nil_append, List.append_nil, List.append_assoc] at h1 ⊢
    exact h1
  exact (key u).symm.trans ((((Eqv.refl (con l)).app e).app (.refl (con r))).trans (key v))
theorem eqv_part {n : Str} {a b t : Int} (h : a + b = t) : Eqv [(n, t)] [(n, a), (n, b)] := fun w r => by
  show ps (n, t) w = ps (n, a) (ps (n, b) w)
  rw [ps_ps r, h]
theorem eqv_zero {n : Str} : Eqv [] [(n, 0)] := fun w _ => (ps_zero (n := n) (w := w)).symm
theorem one_ne {l r : List Pc} {p : Pc} (h : nf (l ++ [p] ++ r) = nf (l ++ r)) : p.2 = 0 := by
  by_cases h0 : p.2 = 0
  · exact h0
  · have h' : nf (l ++ [p] ++ r) = nf (l ++ [] ++ r) := by rw [List.append_nil]; exact h
    have e := (eqv_mid h').nf
    have : nf [p] = [p] := ps_nil h0
    rw [this] at e
    cases e
theorem con_red {w : List Pc} (h : Red w) : Red (con w) := by
  unfold con
  have := h.rev
  generalize w.reverse = u at this
  induction u with
  | nil => trivial
  | cons p r ih =>
    cases r with
    | nil => show -p.2 ≠ 0; have : p.2 ≠ 0 := this; omega
    | cons q r => exact ⟨by have := this.1; show -p.2 ≠ 0; omega, this.2.1, ih this.2.2⟩
theorem eqv_con_congr {a b : List Pc} (h : Eqv a b) : Eqv (con a) (con b) := by
  have e1 : Eqv (con a) (con a ++ (b ++ con b)) := by
    have := (Eqv.refl (con a)).app (eqv_con b).symm
    simpa using this
  have e2 : Eqv (con a ++ (b ++ con b)) (con a ++ (a ++ con b)) := (Eqv.refl _).app (h.symm.app (.refl _))
  have e3 : Eqv (con a ++ (a ++ con b)) (con b) := by
    have := (eqv_con' a).app (Eqv.refl (con b))
    rw [List.append_assoc] at this
    simpa using this
  exact (e1.trans e2).trans e3
theorem nf_con_nf (c : List Pc) : nf (con c) = con (nf c) := by
  rw [(eqv_con_congr (eqv_nf c)).nf]
  exact red_nf (con_red (nf_red c))
theorem con_ok {c : List Pc} (h : OkC c) : OkC (con c) := fun q hq => by
  obtain ⟨p, hp, rfl⟩ := List.mem_map.mp hq
  exact h p (List.mem_reverse.mp hp)
theorem con_gd {b : Int} {c : List Pc} (h : Gds b c) : Gds b (con c) := fun q hq => by
  obtain ⟨p, hp, rfl⟩ := List.mem_map.mp hq
  obtain ⟨h1, h2, h3⟩ := h p (List.mem_reverse.mp hp)
  exact ⟨h1, by show -b ≤ -p.2; omega, by show -p.2 ≤ b; omega⟩
theorem OkC.app {c d : List Pc} (h : OkC c) (g : OkC d) : OkC (c ++ d) := fun p hp => (List.mem_append.mp hp).elim (h p) (g p)
theorem OkC.sub {c d : List Pc} (h : OkC c) (g : ∀ p ∈ d, p ∈ c) : OkC d := fun p hp => h p (g p hp)
theorem split_at {c : List Pc} {i : Nat} (h : i < c.length) : c = c.take i ++ [c[i]] ++ c.drop (i + 1) := by
  have : c.take i ++ [c[i]] = c.take (i + 1) := by rw [List.take_succ_eq_append_getElem h]
  rw [this, List.take_append_drop]
theorem split_at2 {c : List Pc} {i : Nat} (h : i + 1 < c.length) : c = c.take i ++ [c[i], c[i + 1]] ++ c.drop (i + 2) := by
  have h1 := split_at (c := c) (i := i + 1) h
  have h2 : c.take (i + 1) = c.take i ++ [c[i]] := List.take_succ_eq_append_getElem (by omega)
  rw [h2] at h1
  simpa using h1
theorem nf_bd {b : Int} (b0 : 0 ≤ b) : ∀ {c : List Pc}, (∀ p ∈ c, -b ≤ p.2 ∧ p.2 ≤ b) → ∀ p ∈ nf c, -(c.length * b) ≤ p.2 ∧ p.2 ≤ c.length * b
  | [], _, p, h => by cases h
  | q :: c, hc, p, h => by
    have ih := nf_bd b0 (c := c) fun z hz => hc z (by simp [hz])
    have hq := hc q (by simp)
    have e : ((q :: c).length : Int) * b = c.length * b + b := by
      rw [List.length_cons, Int.natCast_succ, Int.add_mul, Int.one_mul]
    have hm : 0 ≤ (c.length : Int) * b := Int.mul_nonneg (by omega) b0
    rw [e]
    have up : ∀ z ∈ nf c, -(c.length * b + b) ≤ z.2 ∧ z.2 ≤ c.length * b + b := fun z hz => by
      have := ih z hz
      omega
    change p ∈ ps q (nf c) at h
    unfold ps at h
    split at h
    · exact up p h
    · split at h
      · rw [List.mem_singleton] at h
        subst h
        omega
      · rename_i l r hw
        rw [hw] at up ih
        split at h
        · split at h
          · exact up p (by simp [h])
          · rcases List.mem_cons.mp h with z | z
            · have := ih l (by simp)
              subst z
              simp only
              omega
            · exact up p (by simp [z])
        · rcases List.mem_cons.mp h with z | z
          · subst z; omega
          · exact up p z
/-! ### the row of a cord's nails -/
def lts (c : List Pc) : List Nat := (c.map fun p => p.1.cps.toList).flatten
theorem glue_fold : ∀ (r : List Str) (a : Array Nat), (r.foldl (fun acc p => acc ++ (tx []).cps ++ p.cps) a).toList = a.toList ++ (r.map (·.cps.toList)).flatten
  | [], a => by simp
  | s :: r, a => by
    rw [List.foldl_cons, glue_fold r]
    simp [tx]
theorem join_nil (ss : List Str) : Txt.join (tx []) ss = tx (ss.map (·.cps.toList)).flatten := by
  cases ss with
  | nil => rfl
  | cons s r =>
    show (⟨r.foldl (fun acc p => acc ++ (tx []).cps ++ p.cps) s.cps⟩ : Str) = _
    rw [tx_of (⟨r.foldl (fun acc p => acc ++ (tx []).cps ++ p.cps) s.cps⟩ : Str)]
    rw [glue_fold r s.cps]
    rfl
def Nl (c : List Pc) : Prop := ∀ p ∈ c, isNail p.1
theorem Gds.nl {b : Int} {c : List Pc} (h : Gds b c) : Nl c := fun p hp => (h p hp).1
theorem Nl.ok {c : List Pc} (h : Nl c) : OkC c := fun p hp => (h p hp).ok
theorem Nl.nf {c : List Pc} (h : Nl c) : Nl (nf c) := fun q hq => by
  obtain ⟨p, hp, e⟩ := nf_nails hq
  rw [e]
  exact h p hp
theorem Nl.app {c d : List Pc} (h : Nl c) (g : Nl d) : Nl (c ++ d) := fun p hp => (List.mem_append.mp hp).elim (h p) (g p)
theorem Nl.con {c : List Pc} (h : Nl c) : Nl (con c) := fun q hq => by
  obtain ⟨p, hp, rfl⟩ := List.mem_map.mp hq
  exact h p (List.mem_reverse.mp hp)
theorem Nl.tail {p : Pc} {c : List Pc} (h : Nl (p :: c)) : Nl c := fun q hq => h q (by simp [hq])
theorem lts_cons {p : Pc} {c : List Pc} {x : Nat} (h : p.1 = tx [x]) : lts (p :: c) = x :: lts c := by
  unfold lts
  rw [List.map_cons, List.flatten_cons, h, tx_cps]
  rfl
theorem lts_len : ∀ {c : List Pc}, Nl c → (lts c).length = c.length
  | [], _ => rfl
  | p :: c, h => by
    obtain ⟨x, hx, _⟩ := h p (by simp)
    rw [lts_cons hx, List.length_cons, List.length_cons, lts_len h.tail]
theorem nl_sum : ∀ {c : List Pc}, Nl c → ((c.map fun p => p.1).map (·.length)).sum = c.length
  | [], _ => rfl
  | p :: c, h => by
    obtain ⟨x, hx, _⟩ := h p (by simp)
    rw [List.map_cons, List.map_cons, List.sum_cons, nl_sum h.tail, hx, tx_len, List.length_cons, List.length_cons]
    simp
    omega
/-- the product of the turns -/
def prd (c : List Pc) : Int := c.foldr (fun p z => p.2 * z) 1
theorem prd_ne : ∀ {w : List Pc}, Red w → prd w ≠ 0
  | [], _ => by decide
  | p :: w, h => Int.mul_ne_zero h.head (prd_ne h.tail)
end NL

/-! How many times a row stands in a cord. -/
namespace NL
open PySem PySem.Spec L2
open PyProof.Rows hiding St

def fal (t : Int) : Nat → Int
  | 0 => 1
  | m + 1 => fal t m * (t - m)
def fac : Nat → Int
  | 0 => 1
  | m + 1 => fac m * (m + 1)
theorem fac_pos : ∀ m, 0 < fac m
  | 0 => by decide
  | m + 1 => Int.mul_pos (fac_pos m) (by omega)
theorem fal_succ (t : Int) : ∀ m, fal (t + 1) (m + 1) = (t + 1) * fal t m
  | 0 => by simp [fal]
  | m + 1 => by
    have ih := fal_succ t m
    show fal (t + 1) (m + 1) * (t + 1 - ((m + 1 : Nat) : Int)) = (t + 1) * (fal t m * (t - m))
    rw [ih, Int.mul_assoc]
    congr 2
    omega
theorem fal_pascal (t : Int) (m : Nat) : fal (t + 1) (m + 1) = fal t (m + 1) + (m + 1) * fal t m := by
  rw [fal_succ]
  show _ = fal t m * (t - m) + _
  grind
theorem up_down {p : Int → Prop} (h0 : p 0) (hs : ∀ t, p t ↔ p (t + 1)) (t : Int) : p t := by
  have up : ∀ n : Nat, p n := fun n => by
    induction n with
    | zero => exact h0
    | succ n ih => exact (hs _).mp ih
  have down : ∀ n : Nat, p (-(n : Int)) := fun n => by
    induction n with
    | zero => exact h0
    | succ n ih => exact (hs _).mpr (by rw [show -((n + 1 : Nat) : Int) + 1 = -(n : Int) by omega]; exact ih)
  rcases Int.le_total 0 t with h | h
  · have := up t.toNat
    rwa [Int.toNat_of_nonneg h] at this
  · have := down (-t).toNat
    rwa [Int.toNat_of_nonneg (by omega), Int.neg_neg] at this
theorem fal0 : ∀ m, fal 0 (m + 1) = 0
  | 0 => by simp [fal]
  | m + 1 => by
    show fal 0 (m + 1) * _ = 0
    rw [fal0 m, Int.zero_mul]
theorem fac_dvd : ∀ (m : Nat) (t : Int), fac m ∣ fal t m
  | 0, _ => ⟨1, rfl⟩
  | m + 1, t => by
    have ih := fac_dvd m
    refine up_down (p := fun t => fac (m + 1) ∣ fal t (m + 1)) ?_ (fun t => ?_) t
    · rw [fal0]; exact Int.dvd_zero _
    · have h : fac (m + 1) ∣ (m + 1) * fal t m := by
        obtain ⟨c, hc⟩ := ih t
        exact ⟨c, by rw [hc]; show _ = fac m * (m + 1) * c; grind⟩
      rw [fal_pascal]
      constructor
      · exact fun z => Int.dvd_add z h
      · intro z
        have := Int.dvd_sub z h
        rwa [Int.add_sub_cancel] at this
/-- the ways to take m of t -/
def ch (t : Int) (m : Nat) : Int := fal t m / fac m
theorem ch_mul (t : Int) (m : Nat) : ch t m * fac m = fal t m := Int.ediv_mul_cancel (fac_dvd m t)
theorem ch_eq {t z : Int} {m : Nat} (h : z * fac m = fal t m) : ch t m = z := by
  unfold ch
  rw [← h, Int.mul_ediv_cancel _ (Int.ne_of_gt (fac_pos m))]
theorem ch_zero (t : Int) : ch t 0 = 1 := ch_eq rfl
theorem ch_pascal (t : Int) (m : Nat) : ch (t + 1) (m + 1) = ch t (m + 1) + ch t m := by
  apply ch_eq
  have h1 := ch_mul t (m + 1)
  have h2 := ch_mul t m
  rw [fal_pascal, Int.add_mul, h1, ← h2]
  show _ + _ * (fac m * (m + 1)) = _
  grind
theorem ch0 (m : Nat) : ch 0 (m + 1) = 0 := ch_eq (by rw [fal0, Int.zero_mul])
theorem ch1 (m : Nat) : ch 1 (m + 2) = 0 := by
  have := ch_pascal 0 (m + 1)
  rw [ch0, ch0] at this
  exact this
theorem ch_step (t : Int) (m : Nat) : ch t m * (t - m) / (m + 1) = ch t (m + 1) := by
  have h1 := ch_mul t (m + 1)
  have h2 := ch_mul t m
  have hp := fac_pos m
  have key : ch t m * (t - m) = ch t (m + 1) * (m + 1) := by
    apply Int.eq_of_mul_eq_mul_right (Int.ne_of_gt hp)
    have e1 : ch t (m + 1) * (fac m * (m + 1)) = fal t m * (t - m) := h1
    rw [← h2] at e1
    grind
  rw [key, Int.mul_ediv_cancel _ (by omega)]

/-! ### sums over runs of one nail at the beginning -/
def xx (n : Str) (A : List Nat → Int) (f : Nat → Int) : Nat → List Nat → Int
  | m, [] => A [] * f m
  | m, x :: r => A (x :: r) * f m + if tx [x] = n then xx n A f (m + 1) r else 0
/-- a piece more, to what a row's beginnings (turned round) stand for -/
def stp (p : Pc) (A : List Nat → Int) (r : List Nat) : Int := xx p.1 A (ch p.2) 0 r
def one0 : List Nat → Int
  | [] => 1
  | _ :: _ => 0
/-- the times of a row, the row turned round -/
def tim (c : List Pc) : List Nat → Int := c.foldl (fun A p => stp p A) one0
theorem tim_app (c : List Pc) (p : Pc) : tim (c ++ [p]) = stp p (tim c) := by simp [tim, List.foldl_append]
/-! sums of sums -/
theorem xx_shift {n : Str} {A : List Nat → Int} {g : Nat → Int} : ∀ (r : List Nat) (m : Nat), xx n A (fun j => g (j + 1)) m r = xx n A g (m + 1) r
  | [], m => rfl
  | x :: r, m => by simp only [xx, xx_shift r (m + 1)]
theorem xx_add {n : Str} {A : List Nat → Int} {f g : Nat → Int} : ∀ (r : List Nat) (m : Nat), xx n A (fun j => f j + g j) m r = xx n A f m r + xx n A g m r
  | [], m => by simp only [xx, Int.mul_add]
  | x :: r, m => by
    simp only [xx, xx_add r (m + 1), Int.mul_add]
    split <;> omega
theorem xx_mul {n : Str} {A : List Nat → Int} {f : Nat → Int} {b : Int} : ∀ (r : List Nat) (m : Nat), xx n A (fun j => b * f j) m r = b * xx n A f m r
  | [], m => by simp only [xx]; grind
  | x :: r, m => by
    simp only [xx, xx_mul r (m + 1)]
    split <;> grind
theorem xx_zero {n : Str} {A : List Nat → Int} {f : Nat → Int} : ∀ (r : List Nat) (m : Nat), (∀ j, m ≤ j → f j = 0) → xx n A f m r = 0
  | [], m, h => by simp [xx, h m (Nat.le_refl m)]
  | x :: r, m, h => by
    simp only [xx, h m (Nat.le_refl m), xx_zero r (m + 1) fun j hj => h j (by omega)]
    simp
def SS (A B : List Nat → Int) : List Nat → List Nat → Int
  | pre, [] => A pre * B []
  | pre, y :: suf => A pre * B (y :: suf) + SS A B (y :: pre) suf
theorem SS_key (p : Pc) (A B : List Nat → Int) : ∀ (suf pre : List Nat), SS (stp p A) B pre suf + A pre * stp p B suf = SS A (stp p B) pre suf + xx p.1 A (fun j => xx p.1 B (ch p.2) j suf) 0 pre
  | [], pre => by
    show stp p A pre * B [] + A pre * stp p B [] = A pre * stp p B [] + xx p.1 A (fun j => B [] * ch p.2 j) 0 pre
    rw [xx_mul]
    show xx p.1 A (ch p.2) 0 pre * B [] + _ = _
    grind
  | y :: suf, pre => by
    have ih := SS_key p A B suf (y :: pre)
    have e1 : xx p.1 A (fun j => xx p.1 B (ch p.2) j suf) 0 (y :: pre) = A (y :: pre) * stp p B suf + if tx [y] = p.1 then xx p.1 A (fun j => xx p.1 B (ch p.2) j suf) 1 pre else 0 := rfl
    rw [e1] at ih
    have e2 : xx p.1 A (fun j => xx p.1 B (ch p.2) j (y :: suf)) 0 pre = B (y :: suf) * stp p A pre + if tx [y] = p.1 then xx p.1 A (fun j => xx p.1 B (ch p.2) j suf) 1 pre else 0 := by
      show xx p.1 A (fun j => B (y :: suf) * ch p.2 j + if tx [y] = p.1 then xx p.1 B (ch p.2) (j + 1) suf else 0) 0 pre = _
      rw [xx_add, xx_mul]
      congr 1
      split
      · exact xx_shift (g := fun j => xx p.1 B (ch p.2) j suf) pre 0
      · exact xx_zero pre 0 fun _ _ => rfl
    rw [e2]
    show stp p A pre * B (y :: suf) + SS (stp p A) B (y :: pre) suf + A pre * stp p B (y :: suf) = A pre * stp p B (y :: suf) + SS A (stp p B) (y :: pre) suf + _
    grind
theorem SS_one (p : Pc) (A B : List Nat → Int) (row : List Nat) : SS (stp p A) B [] row = SS A (stp p B) [] row := by
  have h := SS_key p A B row []
  have e : xx p.1 A (fun j => xx p.1 B (ch p.2) j row) 0 [] = A [] * stp p B row := rfl
  rw [e] at h
  omega
/-- what a cord's end makes of what rows stand for behind it -/
def wyA (c : List Pc) (B : List Nat → Int) : List Nat → Int := c.foldr (fun p B => stp p B) B
def wy (c : List Pc) : List Nat → Int := wyA c one0
theorem SS_all (row : List Nat) : ∀ (c : List Pc) (A B : List Nat → Int), SS (c.foldl (fun A p => stp p A) A) B [] row = SS A (wyA c B) [] row
  | [], A, B => rfl
  | p :: c, A, B => by
    rw [List.foldl_cons, SS_all row c]
    exact SS_one p A _ row
theorem SS_right (A : List Nat → Int) : ∀ (suf pre : List Nat), SS A one0 pre suf = A (suf.reverse ++ pre)
  | [], pre => by simp [SS, one0]
  | y :: suf, pre => by simp [SS, one0, SS_right A suf]
theorem SS_left0 (B : List Nat → Int) : ∀ (suf pre : List Nat) (y : Nat), SS one0 B (y :: pre) suf = 0
  | [], pre, y => by simp [SS, one0]
  | z :: suf, pre, y => by simp [SS, one0, SS_left0 B suf]
theorem SS_left (B : List Nat → Int) (suf : List Nat) : SS one0 B [] suf = B suf := by
  cases suf with
  | nil => simp [SS, one0]
  | cons y suf => simp [SS, one0, SS_left0]
theorem wy_tim (c : List Pc) (row : List Nat) : wy c row = tim c row.reverse := by
  have h := SS_all row c one0 one0
  rw [SS_right, SS_left, List.append_nil] at h
  exact h.symm
theorem tim_wy (c : List Pc) (row : List Nat) : tim c row = wy c row.reverse := by rw [wy_tim, List.reverse_reverse]

/-! ### pieces put together -/
theorem stp_zero (n : Str) (A : List Nat → Int) : stp (n, 0) A = A := by
  funext r
  show xx n A (ch 0) 0 r = A r
  cases r with
  | nil => show A [] * ch 0 0 = _; rw [ch_zero, Int.mul_one]
  | cons x r =>
    show A (x :: r) * ch 0 0 + (if tx [x] = n then xx n A (ch 0) 1 r else 0) = _
    rw [ch_zero, xx_zero r 1 fun j hj => by obtain ⟨i, rfl⟩ : ∃ i, j = i + 1 := ⟨j - 1, by omega⟩; exact ch0 i]
    simp
/-- one turn more -/
def bump (n : Str) (A : List Nat → Int) : List Nat → Int
  | [] => A []
  | x :: r => A (x :: r) + if tx [x] = n then A r else 0
theorem stp_succ (n : Str) (t : Int) (A : List Nat → Int) : stp (n, t + 1) A = bump n (stp (n, t) A) := by
  funext r
  show xx n A (ch (t + 1)) 0 r = bump n (fun r => xx n A (ch t) 0 r) r
  cases r with
  | nil => show A [] * ch (t + 1) 0 = A [] * ch t 0; rw [ch_zero, ch_zero]
  | cons x r =>
    show A (x :: r) * ch (t + 1) 0 + (if tx [x] = n then xx n A (ch (t + 1)) 1 r else 0) = A (x :: r) * ch t 0 + (if tx [x] = n then xx n A (ch t) 1 r else 0) + if tx [x] = n then xx n A (ch t) 0 r else 0
    rw [ch_zero, ch_zero, ← xx_shift (g := ch (t + 1)) r 0]
    have : (fun j => ch (t + 1) (j + 1)) = fun j => ch t (j + 1) + ch t j := funext fun j => ch_pascal t j
    rw [this, xx_add, xx_shift (g := ch t) r 0]
    simp only [Nat.zero_add]
    split <;> omega
theorem bump_inj {n : Str} {A B : List Nat → Int} (h : bump n A = bump n B) : A = B := by
  funext r
  induction r with
  | nil => exact congrFun h []
  | cons x r ih =>
    have := congrFun h (x :: r)
    simp only [bump, ih] at this
    omega
theorem stp_stp (n : Str) (a b : Int) (A : List Nat → Int) : stp (n, a) (stp (n, b) A) = stp (n, a + b) A := by
  refine up_down (p := fun a => stp (n, a) (stp (n, b) A) = stp (n, a + b) A) ?_ (fun a => ?_) a
  · rw [stp_zero, Int.zero_add]
  · rw [show a + 1 + b = a + b + 1 by omega, stp_succ, stp_succ]
    exact ⟨fun h => by rw [h], bump_inj⟩
theorem wyA_ps (p : Pc) (w : List Pc) (B : List Nat → Int) : wyA (ps p w) B = stp p (wyA w B) := by
  unfold ps
  split
  · rename_i h
    have : p = (p.1, 0) := Prod.ext rfl h
    rw [this, stp_zero]
  · cases w with
    | nil => rfl
    | cons l r =>
      simp only
      split
      · rename_i e
        have el : l = (p.1, l.2) := Prod.ext e rfl
        have key : stp p (wyA (l :: r) B) = stp (p.1, p.2 + l.2) (wyA r B) := by
          show stp p (stp l (wyA r B)) = _
          rw [el]
          exact stp_stp p.1 p.2 l.2 (wyA r B)
        rw [key]
        split
        · rename_i hs
          rw [hs, stp_zero]
        · rfl
      · rfl
theorem wyA_act (c w : List Pc) (B : List Nat → Int) : wyA (act c w) B = wyA c (wyA w B) := by
  induction c with
  | nil => rfl
  | cons p c ih =>
    rw [act_cons, wyA_ps, ih]
    rfl
theorem wyA_nf (c : List Pc) (B : List Nat → Int) : wyA (nf c) B = wyA c B := wyA_act c [] B
theorem wyA_app (c d : List Pc) (B : List Nat → Int) : wyA (c ++ d) B = wyA c (wyA d B) := by simp [wyA, List.foldr_append]
theorem wy_nf (c : List Pc) : wy (nf c) = wy c := wyA_nf c one0
theorem wy_congr {c d : List Pc} (h : nf c = nf d) : wy c = wy d := by rw [← wy_nf c, h, wy_nf]
theorem wy_fall {c : List Pc} (h : nf c = []) : wy c = one0 := by rw [← wy_nf c, h]; rfl
theorem tim_congr {c d : List Pc} (h : nf c = nf d) : tim c = tim d := funext fun r => by rw [tim_wy, tim_wy, wy_congr h]
theorem ch_one (t : Int) : ch t 1 = t := ch_eq (by simp [fac, fal])
/-! ### how great -/
theorem two_le {a b : Nat} (h : a ≤ b) : (2 : Nat) ^ a ≤ 2 ^ b := Nat.pow_le_pow_right (by decide) h
theorem fal_bd {t : Int} (h : t.natAbs ≤ 2 ^ 120) : ∀ m : Nat, m ≤ 64 → (fal t m).natAbs ≤ 2 ^ (121 * m)
  | 0, _ => by show (1 : Int).natAbs ≤ 2 ^ (121 * 0); decide
  | m + 1, hm => by
    have ih := fal_bd h m (by omega)
    show (fal t m * (t - m)).natAbs ≤ _
    rw [Int.natAbs_mul, Nat.mul_succ, Nat.pow_add]
    refine Nat.mul_le_mul ih ?_
    have e1 : (2 : Nat) ^ 120 = 1329227995784915872903807060280344576 := by decide
    have e2 : (2 : Nat) ^ 121 = 2658455991569831745807614120560689152 := by decide
    omega
theorem ch_bd {t : Int} (h : t.natAbs ≤ 2 ^ 120) {m : Nat} (hm : m ≤ 64) : (ch t m).natAbs ≤ 2 ^ (121 * m) := by
  refine Nat.le_trans ?_ (fal_bd h m hm)
  rw [← ch_mul t m, Int.natAbs_mul]
  exact Nat.le_mul_of_pos_right _ (by have := fac_pos m; omega)
theorem fac_bd : ∀ m : Nat, m ≤ 64 → (fac m).natAbs ≤ 2 ^ (7 * m)
  | 0, _ => by decide
  | m + 1, hm => by
    have ih := fac_bd m (by omega)
    show (fac m * (m + 1)).natAbs ≤ _
    rw [Int.natAbs_mul, Nat.mul_succ, Nat.pow_add]
    refine Nat.mul_le_mul ih ?_
    have e2 : (2 : Nat) ^ 7 = 128 := by decide
    omega
/-- how long the run of a nail at the beginning is -/
def lead (n : Str) : List Nat → Nat
  | [] => 0
  | x :: r => if tx [x] = n then lead n r + 1 else 0
/-- no runs longer than this -/
def RL (M : Nat) : List Nat → Prop
  | [] => True
  | x :: r => lead (tx [x]) r + 1 ≤ M ∧ RL M r
theorem RL.lead {M : Nat} {n : Str} : ∀ {r : List Nat}, RL M r → lead n r ≤ M
  | [], _ => Nat.zero_le _
  | x :: r, h => by
    unfold NL.lead
    split
    · rename_i e
      rw [← e]
      exact h.1
    · exact Nat.zero_le _
theorem lead_le {n : Str} : ∀ {r : List Nat}, lead n r ≤ r.length
  | [] => Nat.zero_le _
  | x :: r => by
    unfold lead
    have := lead_le (n := n) (r := r)
    split <;> simp <;> omega
theorem RL.of {M : Nat} : ∀ {r : List Nat}, r.length ≤ M → RL M r
  | [], _ => trivial
  | x :: r, h => ⟨by have := lead_le (n := tx [x]) (r := r); simp at h; omega, RL.of (by simp at h; omega)⟩
theorem RL.tail {M : Nat} {x : Nat} {r : List Nat} (h : RL M (x :: r)) : RL M r := h.2
theorem RL.drop {M : Nat} : ∀ {r : List Nat} (i : Nat), RL M r → RL M (r.drop i)
  | r, 0, h => h
  | [], i + 1, h => h
  | x :: r, i + 1, h => by rw [List.drop_succ_cons]; exact RL.drop i h.2
/-- rows that end a row, and what they stand for, are so great at most -/
def Bdd (M N : Nat) (A : List Nat → Int) : Prop := ∀ r, RL M r → (A r).natAbs ≤ 2 ^ N
theorem xx_bd {M N F : Nat} {n : Str} {A : List Nat → Int} {f : Nat → Int} (hA : Bdd M N A) (hM : M ≤ 64) : ∀ (r : List Nat) (m : Nat), RL M r → m + lead n r ≤ M → (∀ j, j ≤ M → (f j).natAbs ≤ 2 ^ F) → (xx n A f m r).natAbs ≤ (lead n r + 1) * 2 ^ (N + F)
  | [], m, h, hl, hf => by
    show (A [] * f m).natAbs ≤ (0 + 1) * _
    rw [Int.natAbs_mul, Nat.pow_add, Nat.zero_add, Nat.one_mul]
    exact Nat.mul_le_mul (hA _ h) (hf m (by omega))
  | x :: r, m, h, hl, hf => by
    have e1 : (A (x :: r) * f m).natAbs ≤ 2 ^ (N + F) := by
      rw [Int.natAbs_mul, Nat.pow_add]
      exact Nat.mul_le_mul (hA _ h) (hf m (by omega))
    unfold xx NL.lead at *
    split
    · rename_i e
      rw [if_pos e] at hl
      have ih := xx_bd (n := n) hA hM r (m + 1) h.2 (by omega) hf
      rw [Nat.add_mul, Nat.one_mul]
      omega
    · rw [Nat.zero_add, Nat.one_mul, Int.add_zero]
      exact e1
theorem stp_bd {M N : Nat} {p : Pc} {A : List Nat → Int} (hA : Bdd M N A) (hM : M ≤ 64) (hp : p.2.natAbs ≤ 2 ^ 120) : Bdd M (N + (121 * M + 7)) (stp p A) := fun r h => by
  have h1 := xx_bd (n := p.1) (f := ch p.2) (F := 121 * M) hA hM r 0 h (by have := h.lead (n := p.1); omega) fun j hj => Nat.le_trans (ch_bd hp (by omega)) (two_le (by omega))
  have h2 := h.lead (n := p.1)
  have e : (2 : Nat) ^ (N + (121 * M + 7)) = 128 * 2 ^ (N + 121 * M) := by
    rw [show N + (121 * M + 7) = 7 + (N + 121 * M) by omega, Nat.pow_add]
  rw [e]
  exact Nat.le_trans h1 (Nat.mul_le_mul (by omega) (Nat.le_refl _))
theorem one_bd {M : Nat} : Bdd M 0 one0 := fun r _ => by cases r <;> simp [one0]
theorem tim_bd {M : Nat} (hM : M ≤ 64) : ∀ (c : List Pc) {A : List Nat → Int} {N : Nat}, (∀ p ∈ c, p.2.natAbs ≤ 2 ^ 120) → Bdd M N A → Bdd M (N + c.length * (121 * M + 7)) (c.foldl (fun A p => stp p A) A)
  | [], A, N, _, h => by simpa using h
  | p :: c, A, N, hc, h => by
    have := tim_bd hM c (fun q hq => hc q (by simp [hq])) (stp_bd h hM (hc p (by simp)))
    rw [List.foldl_cons, List.length_cons, Nat.add_mul, Nat.one_mul]
    rw [show N + (c.length * (121 * M + 7) + (121 * M + 7)) = N + (121 * M + 7) + c.length * (121 * M + 7) by omega]
    exact this
/-- what is still to come, behind the first so many -/
def rs (n : Str) (A : List Nat → Int) (f : Nat → Int) (m : Nat) : List Nat → Int
  | [] => 0
  | x :: r => if tx [x] = n then xx n A f (m + 1) r else 0
theorem rs_cons {n : Str} {A : List Nat → Int} {f : Nat → Int} {m x : Nat} {r : List Nat} : rs n A f m (x :: r) = if tx [x] = n then xx n A f (m + 1) r else 0 := rfl
theorem xx_rs {n : Str} {A : List Nat → Int} {f : Nat → Int} {m : Nat} {r : List Nat} : xx n A f m r = A r * f m + rs n A f m r := by
  cases r with
  | nil => simp [xx, rs]
  | cons x r => rfl
theorem mul_le {i j : Int} {a b : Nat} (h1 : i.natAbs ≤ 2 ^ a) (h2 : j.natAbs ≤ 2 ^ b) (h : a + b < 999990) : CMulW i j :=
  mulWn (a := a) (b := b) (Nat.lt_of_le_of_lt h1 (Nat.pow_lt_pow_right (by decide) (by omega))) (Nat.lt_of_le_of_lt h2 (Nat.pow_lt_pow_right (by decide) (by omega))) (by omega)
/-- turns of at most 120 binary figures -/
def Tb (c : List Pc) : Prop := ∀ p ∈ c, p.2.natAbs ≤ 2 ^ 120
theorem step_bd {t : Int} (ht : t.natAbs ≤ 2 ^ 120) {i : Nat} (hi : i ≤ 64) : (t - i).natAbs ≤ 2 ^ 121 := by
  have e1 : (2 : Nat) ^ 120 = 1329227995784915872903807060280344576 := by decide
  have e2 : (2 : Nat) ^ 121 = 2658455991569831745807614120560689152 := by decide
  omega
theorem rng1 {m : Nat} : rng 0 1 m = (List.range m).map fun i : Nat => (i : Int) := by
  unfold rng
  apply List.map_congr_left
  intro i _
  omega
theorem rng_next {m i : Nat} {k : Nat} {r : List Nat} (h : k :: r = (List.range m).drop i) : i < m ∧ k = i ∧ r = (List.range m).drop (i + 1) := by
  have hlt : i < m := by
    have := congrArg List.length h
    simp at this
    omega
  rw [List.drop_eq_getElem_cons (by simpa using hlt)] at h
  obtain ⟨h1, h2⟩ := List.cons.inj h
  exact ⟨hlt, by simpa using h1, h2⟩
theorem rng_end {m i : Nat} (h : [] = (List.range m).drop i) (hi : i ≤ m) : i = m := by
  have := congrArg List.length h
  simp at this
  omega
theorem wy_bd {M : Nat} (hM : M ≤ 64) : ∀ {c : List Pc}, Tb c → Bdd M (c.length * (121 * M + 7)) (wy c)
  | [], _ => by rw [List.length_nil, Nat.zero_mul]; exact one_bd
  | p :: c, h => by
    have := stp_bd (p := p) (wy_bd hM (c := c) fun q hq => h q (by simp [hq])) hM (h p (by simp))
    rw [List.length_cons, Nat.add_mul, Nat.one_mul]
    exact this
theorem Tb.tail {p : Pc} {c : List Pc} (h : Tb (p :: c)) : Tb c := fun q hq => h q (by simp [hq])
theorem Tb.of {b : Int} {c : List Pc} (h : Gds b c) (hb : b ≤ 1000000000000000000000000000000) : Tb c := fun p hp => by
  obtain ⟨_, h1, h2⟩ := h p hp
  have e1 : (2 : Nat) ^ 120 = 1329227995784915872903807060280344576 := by decide
  omega
theorem xx_run {n : Str} {x : Nat} (e : tx [x] = n) {f : Nat → Int} : ∀ (m k : Nat), xx n one0 f k (List.replicate m x) = f (k + m)
  | 0, k => by simp [xx, one0]
  | m + 1, k => by
    simp only [List.replicate_succ, xx, one0, if_pos e, xx_run e m (k + 1)]
    rw [Int.zero_mul, Int.zero_add]
    congr 1
    omega
theorem xx_off {n : Str} {x y : Nat} (e : tx [x] = n) (ne : tx [y] ≠ n) {f : Nat → Int} {r : List Nat} : ∀ (m k : Nat), xx n one0 f k (List.replicate m x ++ y :: r) = 0
  | 0, k => by simp [xx, one0, ne]
  | m + 1, k => by
    simp only [List.replicate_succ, List.cons_append, xx, one0, if_pos e, xx_off e ne m (k + 1)]
    simp
theorem xx_same {n : Str} {A B : List Nat → Int} {f : Nat → Int} {x : Nat} (h : ∀ m, A (List.replicate m x) = B (List.replicate m x)) : ∀ (m k : Nat), xx n A f k (List.replicate m x) = xx n B f k (List.replicate m x)
  | 0, k => by
    have := h 0
    simp only [List.replicate_zero] at this
    simp only [List.replicate_zero, xx, this]
  | m + 1, k => by
    have := h (m + 1)
    simp only [List.replicate_succ] at this
    simp only [List.replicate_succ, xx, this, xx_same h m (k + 1)]
theorem stp_side {p : Pc} {A : List Nat → Int} {x : Nat} (ne : tx [x] ≠ p.1) (m : Nat) : stp p A (List.replicate m x) = A (List.replicate m x) := by
  cases m with
  | zero => simp [stp, xx, ch_zero]
  | succ m => simp [stp, xx, ch_zero, List.replicate_succ, ne]
def tab (A : List Nat → Int) (l : List Nat) : List Int := (List.range (l.length + 1)).map fun e => A (l.take e).reverse
theorem tab_len {A : List Nat → Int} {l : List Nat} : (tab A l).length = l.length + 1 := by simp [tab]
theorem tab_at {A : List Nat → Int} {l : List Nat} {e : Nat} (h : e ≤ l.length) : (tab A l)[e]? = some (A (l.take e).reverse) := by
  unfold tab
  rw [List.getElem?_map, List.getElem?_range (by omega)]
  rfl
theorem tab_init {l : List Nat} : (tab one0 l).map D.int = D.int 1 :: ([] ++ l.map fun _ => D.int 0) := by
  rw [List.nil_append]
  unfold tab
  rw [List.range_succ_eq_map, List.map_cons, List.map_cons, List.map_map, List.map_map]
  congr 1
  apply List.ext_getElem
  · simp
  · intro i h1 h2
    simp at h1 h2
    simp only [List.getElem_map, List.getElem_range, Function.comp]
    have : (l.take (i + 1)).reverse ≠ [] := by
      simp
      intro z
      rw [z] at h2
      simp at h2
    cases q : (l.take (i + 1)).reverse with
    | nil => exact absurd q this
    | cons x r => rfl
theorem tab_of {A : List Nat → Int} {l : List Nat} {ts : List Int} (hl : ts.length = l.length + 1) (h : ∀ e, e ≤ l.length → ts[e]? = some (A (l.take e).reverse)) : ts = tab A l := by
  apply List.ext_getElem?
  intro i
  by_cases hi : i ≤ l.length
  · rw [h i hi, tab_at hi]
  · rw [List.getElem?_eq_none (by omega), List.getElem?_eq_none (by rw [tab_len]; omega)]
/-! ### rows with unlike neighbours -/
theorem lead0 {x : Nat} {r : List Nat} : lead (tx [x]) r = 0 ↔ r.head? ≠ some x := by
  cases r with
  | nil => simp [lead]
  | cons y r =>
    unfold lead
    by_cases e : y = x
    · subst e; simp
    · have : ¬ tx [y] = tx [x] := fun z => e (by simpa using tx_inj.mp z)
      simp [this, e]
theorem RL1_cons {x : Nat} {r : List Nat} : RL 1 (x :: r) ↔ r.head? ≠ some x ∧ RL 1 r := by
  rw [← lead0]
  show lead (tx [x]) r + 1 ≤ 1 ∧ _ ↔ _
  constructor
  · exact fun h => ⟨by omega, h.2⟩
  · exact fun h => ⟨by omega, h.2⟩
theorem RL1_snoc {x : Nat} : ∀ {r : List Nat}, RL 1 r → (∀ y, r.getLast? = some y → y ≠ x) → RL 1 (r ++ [x])
  | [], _, _ => RL1_cons.mpr ⟨by simp, trivial⟩
  | [y], h, g => RL1_cons.mpr ⟨by have := g y rfl; simp; exact fun z => this z.symm, RL1_cons.mpr ⟨by simp, trivial⟩⟩
  | y :: z :: r, h, g => by
    have h' := RL1_cons.mp h
    exact RL1_cons.mpr ⟨by simpa using h'.1, RL1_snoc (r := z :: r) h'.2 fun w hw => g w (by rw [List.getLast?_cons_cons]; exact hw)⟩
theorem RL1_rev : ∀ {r : List Nat}, RL 1 r → RL 1 r.reverse
  | [], _ => trivial
  | x :: r, h => by
    have h' := RL1_cons.mp h
    rw [List.reverse_cons]
    refine RL1_snoc (RL1_rev h'.2) fun y hy => ?_
    rw [List.getLast?_reverse] at hy
    intro z
    subst z
    exact h'.1 hy
/-- one of each nail at most -/
def stq (p : Pc) (A : List Nat → Int) : List Nat → Int
  | [] => A []
  | x :: r => A (x :: r) + if tx [x] = p.1 then A r * p.2 else 0
theorem stp_stq {p : Pc} {A : List Nat → Int} {r : List Nat} (h : RL 1 r) : stp p A r = stq p A r := by
  cases r with
  | nil => show A [] * ch p.2 0 = A []; rw [ch_zero, Int.mul_one]
  | cons x r =>
    show A (x :: r) * ch p.2 0 + (if tx [x] = p.1 then xx p.1 A (ch p.2) 1 r else 0) = A (x :: r) + if tx [x] = p.1 then A r * p.2 else 0
    rw [ch_zero, Int.mul_one]
    split
    · rename_i e
      have h' := RL1_cons.mp h
      rw [xx_rs, ch_one]
      have : rs p.1 A (ch p.2) 1 r = 0 := by
        cases r with
        | nil => rfl
        | cons y r =>
          rw [rs_cons, if_neg]
          intro z
          rw [← e] at z
          have : y = x := by simpa using tx_inj.mp z
          exact h'.1 (by rw [this]; rfl)
      rw [this, Int.add_zero]
    · rfl
theorem wy_nil (l : List Nat) : wy [] l = one0 l := rfl
theorem wy_cons1 {p : Pc} {c : List Pc} {x : Nat} {r : List Nat} (h : RL 1 (x :: r)) : wy (p :: c) (x :: r) = wy c (x :: r) + if tx [x] = p.1 then wy c r * p.2 else 0 := stp_stq (A := wy c) h
theorem wy_empty : ∀ c : List Pc, wy c [] = 1
  | [] => rfl
  | p :: c => by
    show stp p (wy c) [] = 1
    rw [stp_stq (r := []) trivial]
    exact wy_empty c
theorem wy_long : ∀ {c : List Pc} {l : List Nat}, RL 1 l → c.length < l.length → wy c l = 0
  | [], [], _, h => by simp at h
  | [], _ :: _, _, _ => rfl
  | p :: c, [], _, h => by simp at h
  | p :: c, x :: l, hr, h => by
    simp only [List.length_cons] at h
    rw [wy_cons1 hr, wy_long (c := c) hr (by simp; omega), wy_long (c := c) (RL1_cons.mp hr).2 (by omega)]
    simp
theorem lts_RL : ∀ {w : List Pc}, Nl w → Red w → RL 1 (lts w)
  | [], _, _ => trivial
  | [p], h, _ => by
    obtain ⟨x, hx, _⟩ := h p (by simp)
    rw [lts_cons hx]
    exact RL1_cons.mpr ⟨by simp [lts], trivial⟩
  | p :: q :: w, h, hr => by
    obtain ⟨x, hx, _⟩ := h p (by simp)
    obtain ⟨y, hy, _⟩ := h q (by simp)
    have ih := lts_RL h.tail hr.2.2
    rw [lts_cons hx]
    refine RL1_cons.mpr ⟨?_, ih⟩
    rw [lts_cons hy]
    intro z
    have : y = x := by simpa using z
    exact hr.2.1 (by rw [hx, hy, this])
/-- the row of runs stands in them as often as the turns' product -/
theorem wy_runs : ∀ {w : List Pc}, Nl w → Red w → wy w (lts w) = prd w
  | [], _, _ => rfl
  | p :: w, h, hr => by
    obtain ⟨x, hx, _⟩ := h p (by simp)
    have hrl := lts_RL h hr
    rw [lts_cons hx] at hrl ⊢
    rw [wy_cons1 hrl, wy_long hrl (by rw [List.length_cons, lts_len h.tail]; omega), if_pos hx.symm, wy_runs h.tail hr.tail]
    show 0 + prd w * p.2 = p.2 * prd w
    grind
theorem prd_bd : ∀ {c : List Pc}, Tb c → (prd c).natAbs ≤ 2 ^ (c.length * 120)
  | [], _ => by decide
  | p :: c, h => by
    show (p.2 * prd c).natAbs ≤ _
    rw [Int.natAbs_mul, List.length_cons, Nat.succ_mul, Nat.pow_add, Nat.mul_comm]
    exact Nat.mul_le_mul (prd_bd h.tail) (h p (by simp))
theorem prd_app (a b : List Pc) : prd (a ++ b) = prd a * prd b := by
  induction a with
  | nil => show prd b = 1 * prd b; omega
  | cons p a ih => show p.2 * prd (a ++ b) = p.2 * prd a * prd b; rw [ih, Int.mul_assoc]
theorem Tb.nf {b : Int} {c : List Pc} (h : Gds b c) (b0 : 0 ≤ b) (hb : b ≤ 1000000000000000000000000000000) (hl : c.length ≤ 100000) : Tb (nf c) := fun p hp => by
  have e1 : (2 : Nat) ^ 120 = 1329227995784915872903807060280344576 := by decide
  have := nf_bd b0 (fun p hp => (h p hp).2) p hp
  have hm : (c.length : Int) * b ≤ 100000 * 1000000000000000000000000000000 := Int.mul_le_mul (by omega) hb b0 (by omega)
  omega
/-! ### the shortest end of a row that stands in a cord -/
def fndL (b one other : List Pc) (row : List Nat) : List Nat → D
  | [] => .non
  | s :: r => if wy b (row.drop (row.length - s)) = 0 then fndL b one other row r else .tup [.str (tx (row.drop (row.length - s))), .int (wy one (row.drop (row.length - s))), .int (wy other (row.drop (row.length - s)))]
def told (one other : List Pc) : D := fndL (nf (con one ++ other)) one other (lts (nf (con one ++ other))) ((List.range (lts (nf (con one ++ other))).length).map (· + 1))
theorem wyA_low {B : List Nat → Int} {e : List Nat} (hr : RL 1 e) (hB : ∀ s, s <:+ e → s ≠ e → B s = one0 s) : ∀ (c : List Pc) (s : List Nat), s <:+ e → s ≠ e → wyA c B s = wy c s
  | [], s, h1, h2 => hB s h1 h2
  | p :: c, [], h1, h2 => by
    rw [wy_empty]
    show stp p (wyA c B) [] = 1
    rw [stp_stq (r := []) trivial]
    show wyA c B [] = 1
    rw [wyA_low hr hB c [] h1 h2, wy_empty]
  | p :: c, x :: r, h1, h2 => by
    have hs : RL 1 (x :: r) := by
      obtain ⟨t, ht⟩ := h1
      have := RL.drop t.length hr
      rw [← ht, List.drop_left] at this
      exact this
    have hr1 : r <:+ e := (List.suffix_cons x r).trans h1
    have hr2 : r ≠ e := fun z => by
      have := h1.length_le
      rw [← z, List.length_cons] at this
      omega
    rw [wy_cons1 hs]
    show stp p (wyA c B) (x :: r) = _
    rw [stp_stq hs]
    show wyA c B (x :: r) + (if tx [x] = p.1 then wyA c B r * p.2 else 0) = _
    rw [wyA_low hr hB c _ h1 h2, wyA_low hr hB c r hr1 hr2]
theorem wyA_top {B : List Nat → Int} {x : Nat} {r : List Nat} (hr : RL 1 (x :: r)) (hB : ∀ s, s <:+ (x :: r) → s ≠ x :: r → B s = one0 s) : ∀ c : List Pc, wyA c B (x :: r) = wy c (x :: r) + B (x :: r)
  | [] => by show B (x :: r) = 0 + B (x :: r); omega
  | p :: c => by
    rw [wy_cons1 hr]
    show stp p (wyA c B) (x :: r) = _
    rw [stp_stq hr]
    show wyA c B (x :: r) + (if tx [x] = p.1 then wyA c B r * p.2 else 0) = _
    rw [wyA_top hr hB c, wyA_low hr hB c r (List.suffix_cons x r) (fun z => by have := congrArg List.length z; simp at this)]
    omega
theorem told_nf (one other : List Pc) : nf (one ++ nf (con one ++ other)) = nf other := by
  rw [← nf_appR, ← List.append_assoc]
  have := (eqv_con one).app (Eqv.refl other)
  simpa using this.nf
/-- what is told of two cords: none just where they are one, else unlike numbers -/
theorem fnd_ne {one other : List Pc} (hn : Nl one) (hm : Nl other) : ∀ (ss : List Nat) (k : Nat), ss = ((List.range (lts (nf (con one ++ other))).length).drop k).map (· + 1) → (∀ s, s <:+ lts (nf (con one ++ other)) → s.length ≤ k → wy (nf (con one ++ other)) s = one0 s) →
    fndL (nf (con one ++ other)) one other (lts (nf (con one ++ other))) ss = .non ∧ (∀ s, s <:+ lts (nf (con one ++ other)) → wy (nf (con one ++ other)) s = one0 s) ∨
    ∃ (e : List Nat) (i j : Int), fndL (nf (con one ++ other)) one other (lts (nf (con one ++ other))) ss = .tup [.str (tx e), .int i, .int j] ∧ i ≠ j ∧ e <:+ lts (nf (con one ++ other)) := fun ss k hk hz => by
  have hb : RL 1 (lts (nf (con one ++ other))) := lts_RL (hn.con.app hm).nf (nf_red _)
  generalize hrow : lts (nf (con one ++ other)) = row at hk hz hb ⊢
  induction ss generalizing k with
  | nil =>
    left
    refine ⟨rfl, fun s hs => hz s hs ?_⟩
    have h1 := congrArg List.length hk
    simp at h1
    have := hs.length_le
    omega
  | cons s ss ih =>
    have hlt : k < row.length := by
      have h1 := congrArg List.length hk
      simp at h1
      omega
    rw [List.drop_eq_getElem_cons (by simpa using hlt), List.map_cons] at hk
    obtain ⟨h1, h2⟩ := List.cons.inj hk
    simp at h1
    subst h1
    unfold fndL
    split
    · rename_i h0
      refine ih (k + 1) h2 fun s hs hl => ?_
      rcases Nat.lt_or_ge s.length (k + 1) with w | w
      · exact hz s hs (by omega)
      · have es : s = row.drop (row.length - (k + 1)) := by
          rw [List.suffix_iff_eq_drop] at hs
          rw [hs]
          congr 1
          have := congrArg List.length hs
          simp at this
          omega
        rw [es, h0]
        cases hd : row.drop (row.length - (k + 1)) with
        | nil =>
          have := congrArg List.length hd
          simp at this
          omega
        | cons x r => rfl
    · rename_i h0
      right
      refine ⟨_, _, _, rfl, ?_, List.drop_suffix _ _⟩
      have hsuf : row.drop (row.length - (k + 1)) <:+ row := List.drop_suffix _ _
      have hlen : (row.drop (row.length - (k + 1))).length = k + 1 := by simp; omega
      have hre : RL 1 (row.drop (row.length - (k + 1))) := hb.drop _
      generalize row.drop (row.length - (k + 1)) = e at h0 hsuf hlen hre ⊢
      cases e with
      | nil => simp at hlen
      | cons x r =>
        have hB : ∀ s, s <:+ (x :: r) → s ≠ x :: r → wy (nf (con one ++ other)) s = one0 s := fun s hs hne => by
          refine hz s (hs.trans hsuf) ?_
          have l1 := hs.length_le
          have l2 : s.length ≠ (x :: r).length := fun z => hne (hs.eq_of_length z)
          omega
        have key : wy other (x :: r) = wy one (x :: r) + wy (nf (con one ++ other)) (x :: r) := by
          rw [← wyA_top hre hB one]
          show wy other _ = wyA one (wyA (nf (con one ++ other)) one0) _
          rw [← wyA_app]
          show wy other _ = wy (one ++ nf (con one ++ other)) _
          rw [wy_congr (told_nf one other)]
        omega
theorem told_same (one : List Pc) : told one one = .non := by
  unfold told
  rw [nf_con']
  rfl
theorem rng11 {n : Nat} : (rng 1 1 n).map D.int = ((List.range n).map (· + 1)).map fun s : Nat => D.int s := by
  unfold rng
  rw [List.map_map, List.map_map]
  apply List.map_congr_left
  intro i _
  simp only [Function.comp]
  congr 1
  omega
theorem Tb.app {c d : List Pc} (h : Tb c) (g : Tb d) : Tb (c ++ d) := fun p hp => (List.mem_append.mp hp).elim (h p) (g p)
theorem Tb.con {c : List Pc} (h : Tb c) : Tb (con c) := fun q hq => by
  obtain ⟨p, hp, rfl⟩ := List.mem_map.mp hq
  have := h p (List.mem_reverse.mp hp)
  show (-p.2).natAbs ≤ 2 ^ 120
  rw [Int.natAbs_neg]
  exact this
theorem lts_ok : ∀ {c : List Pc}, Nl c → ∀ x ∈ lts c, 97 ≤ x ∧ x ≤ 122
  | [], _, x, h => by simp [lts] at h
  | p :: c, hn, x, h => by
    obtain ⟨y, hy, h1, h2⟩ := hn p (by simp)
    rw [lts_cons hy] at h
    rcases List.mem_cons.mp h with z | z
    · rw [z]; exact ⟨h1, h2⟩
    · exact lts_ok hn.tail x z
theorem told_cases {one other : List Pc} (hn : Nl one) (hm : Nl other) : told one other = .non ∨ ∃ (e : List Nat) (i j : Int), told one other = .tup [.str (tx e), .int i, .int j] ∧ i ≠ j ∧ PyData.strOk (tx e) = true := by
  rcases fnd_ne hn hm _ 0 rfl (fun s _ hl => by
    have : s = [] := List.length_eq_zero_iff.mp (by omega)
    rw [this, wy_empty]; rfl) with h | ⟨e, i, j, h1, h2, h3⟩
  · exact .inl h.1
  · exact .inr ⟨e, i, j, h1, h2, tx_ok fun x hx => lts_ok (hn.con.app hm).nf x (h3.subset hx)⟩
end NL

/-! < of data; sorted of data, by an own key too. -/
namespace NL
open PySem PySem.Spec L2
open PyProof.Rows hiding St
/-! ### the order of data -/
def py (d : D) : PyData := toPy 20 d
def dlt (d e : D) : Bool := PySem.W.dataLt (py d) (py e)
def dle (d e : D) : Bool := !dlt e d
def lik (d e : D) : Prop := PySem.W.alike (py d) (py e) = true
def sorD (xs : List D) : List D := xs.mergeSort dle
/-- what can be sorted -/
def Srt1 (xs : List D) : Prop := (∀ x ∈ xs, nb 20 x = true) ∧ (∀ x ∈ xs, ∀ y ∈ xs, lik x y) ∧ PySem.W.Sortable (xs.map py)
section
variable {X : Cx}
theorem op_ltD (hu : X.A.units + 64 < cLine) : OpR X (compareOp .Lt) (fun x y H Q => ∃ d e, Dp X.K H x d ∧ Dp X.K H y e ∧ PySem.W.alike d e = true ∧ d ≠ .none ∧ d.depth ≤ 40 ∧ Q (.bl (PySem.W.dataLt d e)) H) := by
  intro pins s σ H x y v u Q I rx ry h
  obtain ⟨d, e, hd, he, ha, hn, hz, q⟩ := h
  obtain ⟨as, r1⟩ := Dp.reads I d x v hd rx
  obtain ⟨bs, r2⟩ := Dp.reads I e y u he ry
  exact PySem.W.rcLt_alike d e X.A s v u as bs r1 r2 ha hn (by omega) X.prog X.w _ _ ⟨.bl _, H, I, rfl, q⟩
theorem py_depth {d : D} (h : nb 20 d = true) : (py d).depth ≤ 20 := (nb_shape 20 d h).2
end
variable [KC]
section
variable {X : Cx}
def gLtD : D → D → (D → Prop) → Prop := fun d e Q => (nb 20 d = true ∧ nb 20 e = true) ∧ lik d e ∧ isN d = false ∧ Q (.bl (dlt d e))
theorem py_non {d : D} (h : nb 20 d = true) (n : isN d = false) : py d ≠ .none := by
  cases d <;> simp_all [nb, isN, py, toPy]
theorem dLtD {k : Nat} (hr : Room k X.A) (hK : X.K = KC.K := by rfl) : OpD X (compareOp .Lt) gLtD := by
  refine ⟨_, op_ltD hr.units, fun d e Q h H S u v Q' sh hd he k => ?_⟩
  obtain ⟨⟨n1, n2⟩, h1, h2, q⟩ := h
  exact ⟨_, _, nb_dp 20 _ u n1 (hd.full sh), nb_dp 20 _ v n2 (he.full sh), h1, py_non n1 h2, Nat.le_trans (py_depth n1) (by decide), k _ _ H S q (.refl sh) .b⟩
/-! ### sorted(xs) -/
omit [KC] in
theorem dpAll_each {pins : List (Addr × Obj)} {σ : L2.St} {H : Hp} {s : Shared} (I : Inv X pins σ H s) : ∀ (ds : List D) (vs : List V) (us : List Value), (∀ d ∈ ds, nb 20 d = true) → (∀ (i : Nat) (d : D) (v : V), ds[i]? = some d → vs[i]? = some v → Dp X.K H v (py d)) → Vals vs us → ds.length = vs.length →
    PySem.W.EachIs (fun u d => ∃ as, Reads s.heap u (py d) as) us ds
  | [], [], us, _, _, r, _ => by cases r; exact .nil
  | [], _ :: _, _, _, _, _, e => by simp at e
  | _ :: _, [], _, _, _, _, e => by simp at e
  | d :: ds, v :: vs, _, hn, hd, .cons r t, e => by
    obtain ⟨as, z⟩ := Dp.reads I (py d) v _ (hd 0 d v rfl rfl) r
    exact .cons ⟨as, z⟩ (dpAll_each I ds vs _ (fun d m => hn d (by simp [m])) (fun i d v h1 h2 => hd (i + 1) d v (by simpa using h1) (by simpa using h2)) t (by simpa using e))
omit [KC] in
/-- the values V of an arrangement -/
theorem each_back : ∀ {R : Value → (V × D) → Prop} {us : List Value} {ps : List (V × D)}, PySem.W.EachIs R us ps → (∀ u p, R u p → RelV p.1 u) → Vals (ps.map (·.1)) us
  | _, _, _, .nil, _ => .nil
  | _, _, _, .cons h t, f => .cons (f _ _ h) (each_back t f)
def rSortedD (K : PySem.W.Frag) : List V → Hp → VK → Prop := fun vs H Q => ∃ (a : Addr) (xs : List V) (ds : List D), vs = [V.ref a] ∧ SqL K H a xs ∧ xs.length = ds.length ∧ Srt1 ds ∧
  (∀ (i : Nat) (d : D) (v : V), ds[i]? = some d → xs[i]? = some v → Dp K H v (py d)) ∧
  ∀ p, H p = none → Q (.ref p) (upd H p (.lst (((xs.zip ds).mergeSort fun a b => dle a.2 b.2).map (·.1))))
omit [KC] in
theorem cr_sortedD {k : Nat} (hr : Room k X.A) : CallR X (.builtin "sorted") (rSortedD X.K) := by
  intro pins s σ H vs us Q I r h
  obtain ⟨a, xs, ds, rfl, hs, hl, ⟨hn, hal, hso⟩, hd, q⟩ := h
  obtain ⟨its, rv, hL, hz⟩ := I.list hs
  rw [Vals.ref1 r]
  have e1 := dpAll_each I ds xs its hn hd rv hl.symm
  have il : its.length = ds.length := by rw [← rv.length]; exact hl
  have e2 : PySem.W.EachIs (fun u (p : V × D) => RelV p.1 u ∧ ∃ as, Reads s.heap u (py p.2) as) its (xs.zip ds) := by
    refine PySem.W.EachIs.of_zip (by simp; omega) fun p hp => ?_
    obtain ⟨i, hi⟩ := List.mem_iff_getElem?.mp hp
    rw [List.getElem?_zip_eq_some] at hi
    obtain ⟨h1, h2⟩ := hi
    rw [List.getElem?_zip_eq_some] at h2
    obtain ⟨u, hu, ru⟩ := rv.get h2.1
    rw [h1] at hu
    cases hu
    exact ⟨ru, e1.zip (p.1, p.2.2) (List.mem_iff_getElem?.mpr ⟨i, by rw [List.getElem?_zip_eq_some]; exact ⟨h1, h2.2⟩⟩)⟩
  have em : (xs.zip ds).map (fun p => py p.2) = ds.map py := by
    rw [show (fun p : V × D => py p.2) = py ∘ Prod.snd from rfl, ← List.map_map, List.map_snd_zip (by omega)]
  have hm : ∀ p ∈ xs.zip ds, nb 20 p.2 = true := fun p hp => hn _ (List.of_mem_zip (a := p.1) (b := p.2) hp).2
  refine PySem.W.sorted_data (bs := xs.zip ds) (enc := fun p => py p.2) hL.isList e2 (e2.mono fun _ _ z => z.2) ?_ (by rw [em]; exact hso) (by simp; omega) (fun p hp => ?_) fun out ho h1 => ?_
  · rw [em]
    intro x hx y hy
    obtain ⟨x, mx, rfl⟩ := List.mem_map.mp hx
    obtain ⟨y, my, rfl⟩ := List.mem_map.mp hy
    exact hal x mx y my
  · have := py_depth (hm p hp)
    have := hr.units
    omega
  · have hv := each_back h1 fun _ _ z => z.1
    have es : PySem.W.dataLe false (fun p : V × D => py p.2) = fun a b => dle a.2 b.2 := rfl
    rw [es] at hv
    obtain ⟨ep, he'⟩ := PyProof.Rows.sortedAll_at s.heap its (List.toArray out)
    have hlen : ((((xs.zip ds).mergeSort fun a b => dle a.2 b.2).map (·.1))).length ≤ sizeLine := by simp; omega
    exact ⟨.ref _, upd H (s.heap.objs.size + 1) (.lst (((xs.zip ds).mergeSort fun a b => dle a.2 b.2).map (·.1))), I.laid (t' := s.toks) (fun _ _ => PyProof.Rows.sortedAll_old) (Nat.le_succ _) ⟨hlen, out, ep, hv, he'⟩, rfl, q _ (I.hok.fresh (Nat.le_succ _))⟩
def gSorted : List D → (List D → Prop) → Prop
  | [.lst xs], Q => Srt1 xs ∧ Q (sorD xs)
  | _, _ => False
omit [KC] in
theorem zip_sort (xs : List V) (ds : List D) (h : xs.length = ds.length) : ((xs.zip ds).mergeSort fun a b => dle a.2 b.2).map (·.2) = sorD ds := by
  unfold sorD
  rw [PySem.W.sort_maps (s := dle) (fun p : V × D => p.2) fun _ _ _ _ => rfl, List.map_snd_zip (by omega)]
theorem dats_perm {S : Hp} : ∀ {ps qs : List (V × D)}, ps.Perm qs → Dats S (qs.map (·.2)) (qs.map (·.1)) → Dats S (ps.map (·.2)) (ps.map (·.1)) := by
  have all : ∀ (qs : List (V × D)), Dats S (qs.map (·.2)) (qs.map (·.1)) ↔ ∀ p ∈ qs, Dat S p.2 p.1 := fun qs => by
    induction qs with
    | nil => simp; exact .nil
    | cons p qs ih =>
      constructor
      · intro h
        simp only [List.map_cons] at h
        unfold Dats at h
        obtain ⟨v, r, e, h1, h2⟩ := h
        cases e
        intro q hq
        rcases List.mem_cons.mp hq with z | z
        · rw [z]; exact h1
        · exact ih.mp h2 q z
      · intro h
        exact Dats.cons (h p (by simp)) (ih.mpr fun q hq => h q (by simp [hq]))
  intro ps qs hp h
  rw [all] at h ⊢
  exact fun p m => h p (hp.mem_iff.mp m)
theorem cSorted {k : Nat} (hr : Room k X.A) (hK : X.K = KC.K := by rfl) : CalF X (.builtin "sorted") gSorted := by
  refine ⟨_, cr_sortedD hr, fun ds Q h H S vs Q' sh hd k => ?_⟩
  unfold gSorted at h
  split at h
  · rename_i xs
    obtain ⟨hx, q⟩ := h
    obtain ⟨v, rfl, hz⟩ := hd.one
    obtain ⟨a, ws, rfl, r, z⟩ := hz
    refine ⟨a, ws, xs, rfl, .of r, z.len, hx, fun i d v h1 h2 => ?_, fun p hp => ?_⟩
    · obtain ⟨y, hy, hd⟩ := z.get h1
      rw [h2] at hy
      cases hy
      exact nb_dp 20 d v (hx.1 d (List.mem_of_getElem? h1)) (Dat.mono sh _ _ hd)
    · refine k (sorD xs) _ p q hp ?_
      rw [← zip_sort ws xs z.len]
      refine dats_perm (List.mergeSort_perm _ _) ?_
      have l := z.len
      rw [List.map_snd_zip (by omega), List.map_fst_zip (by omega)]
      exact z
  · exact h.elim
/-! ### a text in a list or tuple of texts -/
def strD : D → Bool
  | .str _ => true
  | _ => false
def hasS (s : Str) (xs : List D) : Bool := xs.any fun d => match d with
  | .str t => decide (t = s)
  | _ => false
theorem inV_str {S : Hp} {s : Str} : ∀ {xs : List D} {vs : List V}, Dats S xs vs → xs.all strD = true → vs.all flatV = true ∧ inV (.str s) vs = hasS s xs
  | [], vs, h, _ => by unfold Dats at h; subst h; exact ⟨rfl, rfl⟩
  | x :: xs, vs, h, f => by
    unfold Dats at h
    obtain ⟨v, r, rfl, h1, h2⟩ := h
    rw [List.all_cons, Bool.and_eq_true] at f
    obtain ⟨i1, i2⟩ := inV_str (s := s) h2 f.2
    cases x with
    | str t =>
      unfold Dat at h1
      subst h1
      refine ⟨by rw [List.all_cons, i1]; rfl, ?_⟩
      unfold inV hasS at i2 ⊢
      rw [List.any_cons, List.any_cons, i2]
      congr 1
    | _ => exact absurd (show false = true from f.1) (by decide)
def gInT (neg : Bool) : D → D → (D → Prop) → Prop
  | .str s, .lst xs, Q => xs.all strD = true ∧ Q (.bl (neg ^^ hasS s xs))
  | .str s, .tup xs, Q => xs.all strD = true ∧ Q (.bl (neg ^^ hasS s xs))
  | _, _, _ => False
theorem dInT (hK : X.K = KC.K := by rfl) : OpD X (compareOp .In) (gInT false) := by
  refine ⟨_, op_in_seq, fun d e Q h H S u v Q' sh hd he k => ?_⟩
  unfold gInT at h
  split at h
  · obtain ⟨f, q⟩ := h
    cases hd.s
    obtain ⟨a, ws, rfl, r, z⟩ := he
    obtain ⟨i1, i2⟩ := inV_str z f
    exact ⟨a, ws, rfl, .inl (.of r), rfl, i1, by rw [i2]; simpa using k _ _ H S q (.refl sh) .b⟩
  · obtain ⟨f, q⟩ := h
    cases hd.s
    simp only [BDat, Dat] at he
    obtain ⟨a, ws, rfl, r, z⟩ := he
    obtain ⟨i1, i2⟩ := inV_str z f
    exact ⟨a, ws, rfl, .inr (.of (sh _ _ r)), rfl, i1, by rw [i2]; simpa using k _ _ H S q (.refl sh) .b⟩
  · exact h.elim
theorem dNotInT (hK : X.K = KC.K := by rfl) : OpD X (compareOp .NotIn) (gInT true) := by
  refine ⟨_, op_notIn_seq, fun d e Q h H S u v Q' sh hd he k => ?_⟩
  unfold gInT at h
  split at h
  · obtain ⟨f, q⟩ := h
    cases hd.s
    obtain ⟨a, ws, rfl, r, z⟩ := he
    obtain ⟨i1, i2⟩ := inV_str z f
    exact ⟨a, ws, rfl, .inl (.of r), rfl, i1, by rw [i2]; simpa using k _ _ H S q (.refl sh) .b⟩
  · obtain ⟨f, q⟩ := h
    cases hd.s
    simp only [BDat, Dat] at he
    obtain ⟨a, ws, rfl, r, z⟩ := he
    obtain ⟨i1, i2⟩ := inV_str z f
    exact ⟨a, ws, rfl, .inr (.of (sh _ _ r)), rfl, i1, by rw [i2]; simpa using k _ _ H S q (.refl sh) .b⟩
  · exact h.elim
/-! ### t + u, tuples, none of them empty -/
def gAddT : D → D → (D → Prop) → Prop
  | .tup xs, .tup ys, Q => (xs ≠ [] ∧ ys ≠ [] ∧ xs.length + ys.length ≤ sizeLine) ∧ Q (.tup (xs ++ ys))
  | _, _, _ => False
theorem dCatT (hK : X.K = KC.K := by rfl) : OpD X (binaryOp .Add) gAddT := by
  refine ⟨_, op_catT, fun d e Q h H S u v Q' sh hd he k => ?_⟩
  unfold gAddT at h
  split at h
  · obtain ⟨⟨n1, n2, hl⟩, q⟩ := h
    simp only [BDat, Dat] at hd he
    obtain ⟨a, vs, rfl, r1, z1⟩ := hd
    obtain ⟨b, ws, rfl, r2, z2⟩ := he
    have l1 := z1.len
    have l2 := z2.len
    refine ⟨a, b, vs, ws, rfl, rfl, .of (sh _ _ r1), .of (sh _ _ r2), fun e => n1 (List.eq_nil_of_length_eq_zero (by rw [← l1, e]; rfl)), by omega, fun e => absurd (List.eq_nil_of_length_eq_zero (by rw [← l2, e]; rfl)) n2, fun _ p hp => ?_⟩
    obtain ⟨g, y⟩ := lay_tup sh hp (z1.app z2)
    exact k _ _ _ _ q g y
  · exact h.elim
/-! ### a new list made while a slot's own list is read as shared -/
theorem Rep.frzAt {F : Fr} {ρ : Ev} {σ : L2.St} {H S : Hp} {i : Nat} {c : Cn} {p : Addr} {o : HO} (r : Rep F ρ σ H S) (h : ρ[i]? = some (.own false c)) (e1 : σ[i]? = some (some (.ref p))) (e2 : S p = none) (e3 : H p = some o) (e4 : CnOk S c o) (h0 : F.H0 p = none) :
    Rep F (ρ.set i (.fz c.d)) σ H (upd S p o) := by
  have hl : i < ρ.length := (List.getElem?_eq_some_iff.mp h).1
  have ss : Same S (upd S p o) := same_upd e2
  refine ⟨⟨r.fg.hh, r.fg.al, r.fg.ss.trans ss, same_upd2 r.fg.sh e3, fun a ha => ?_, r.fg.ft, r.fg.tb.frz e3 e4.ntb.1⟩, by simp [r.len], fun j sl e => ?_, fun j k m1 m2 c1 c2 n q1 q2 => ?_⟩
  · rw [upd_ne (fun z => ha (by rw [z]; exact h0))]
    exact r.fg.nw a ha
  · by_cases z : i = j
    · subst z
      rw [List.getElem?_set_self hl] at e
      cases e
      exact ⟨.ref p, e1, CnOk.dat upd_same (e4.mono ss)⟩
    · rw [List.getElem?_set_ne z] at e
      have q := r.at' j sl e
      cases sl with
      | un => trivial
      | fz d =>
        obtain ⟨v, f1, f2⟩ := q
        exact ⟨v, f1, Dat.mono ss d v f2⟩
      | own m3 c3 =>
        obtain ⟨p3, o3, f1, f2, f3, f4, f5⟩ := q
        refine ⟨p3, o3, f1, ?_, f3, f4.mono ss, f5⟩
        rw [upd_ne (fun z3 => r.dist i j false m3 c c3 z h e (by rw [e1, f1, z3]))]
        exact f2
  · have conv : ∀ (l : Nat) (m4 : Bool) (c4 : Cn), (ρ.set i (.fz c.d))[l]? = some (.own m4 c4) → ρ[l]? = some (.own m4 c4) := fun l m4 c4 q => by
      by_cases z : i = l
      · subst z
        rw [List.getElem?_set_self hl] at q
        cases q
      · rw [List.getElem?_set_ne z] at q
        exact q
    exact r.dist j k _ _ _ _ n (conv _ _ _ q1) (conv _ _ _ q2)
def wThaw (i : Nat) (wl : WL) : WL := fun x ρ Q => match ρ[i]? with
  | some (.own false c) => wl x (ρ.set i (.fz c.d)) fun xs => nls xs = true ∧ Q xs
  | some (.fz _) => wl x ρ Q
  | _ => False
theorem df_thaw {E : XK} {e : Expr} {wl : WL} (i : Nat) (h : DF X E e wl) : DF X E e (wThaw i wl) := by
  obtain ⟨t, p, s⟩ := h.ex
  refine ⟨t, p, fun x ρ Q hw F σ H S Q' rp ex k => ?_⟩
  unfold wThaw at hw
  split at hw
  · rename_i c hi
    obtain ⟨p, o, e1, e2, e3, e4, _, e6⟩ := rp.own hi
    have nt : ∀ xs, o ≠ .tup xs := fun xs z => by
      subst z
      cases c with
      | lst ys => obtain ⟨vs, z, _⟩ := e4; cases z
      | dct ks ys => obtain ⟨vs, z, _⟩ := e4; cases z
      | obj _ _ ys => obtain ⟨dx, vs, z, _⟩ := e4; cases z
    have eP : upd S p o = plusS H S [.ref p] := by
      funext a
      unfold plusS upd
      by_cases z : a = p
      · subst z
        rw [if_pos rfl, if_pos ⟨e2, by simp [tops], o, e3, nt, e4.ntb.1⟩, e3]
      · rw [if_neg z, if_neg (fun w => by have := w.2.1; simp [tops] at this; exact z this.symm)]
    have r2 := rp.frzAt hi e1 e2 e3 e4 (e6 rfl)
    rw [eP] at r2
    have x2 : ExOk X.mg E x H (plusS H S [.ref p]) := fun n C H' S' a b g => ex n C H' _ a b (minus_grow rp.sh g)
    refine s x _ _ hw F σ H _ _ r2 x2 fun xs q vs H' S' hq g h0 h1 h2 h3 => ?_
    refine k xs q vs H' (minusS H S S' [.ref p]) hq.2 (minus_grow rp.sh g) h0 ?_ h2 (minus_dats g xs vs hq.1 h3)
    unfold minusS
    split
    · rfl
    · exact h1
  · exact s x ρ Q hw F σ H S Q' rp ex k
  · exact hw.elim
/-! ### max(xs), min(xs) of whole numbers -/
def gMaxL : List D → (D → Prop) → Prop
  | [.lst xs], Q => ∃ ns : List Int, xs = ns.map D.int ∧ 0 < ns.length ∧ ∀ m, m ∈ ns → (∀ y ∈ ns, y ≤ m) → Q (.int m)
  | _, _ => False
theorem cMaxL (hc : X.calm = true) (hK : X.K = KC.K := by rfl) : CalD X (.builtin "max") gMaxL := by
  refine ⟨_, cr_max hc, fun ds Q h H S vs Q' sh hd k => ?_⟩
  unfold gMaxL at h
  split at h
  · obtain ⟨ns, rfl, hl, q⟩ := h
    obtain ⟨v, rfl, hz⟩ := hd.one
    obtain ⟨a, ws, rfl, r, z⟩ := hz
    have := z.ofInts
    subst this
    exact ⟨a, ns, rfl, .of r, hl, fun m h1 h2 => k _ _ H S (q m h1 h2) (.refl sh) .i⟩
  · exact h.elim
end
end NL

/-! Moves. -/
namespace NL
open PySem PySem.Spec L2
open PyProof.Rows hiding St
/-- a cord of some nails -/
def On (l : List Nat) (c : List Pc) : Prop := ∀ p ∈ c, ∃ y ∈ l, p.1 = tx [y]
theorem on_app {l : List Nat} {a b : List Pc} (h : On l a) (g : On l b) : On l (a ++ b) := fun p hp => (List.mem_append.mp hp).elim (h p) (g p)
theorem on_con {l : List Nat} {a : List Pc} (h : On l a) : On l (con a) := fun p hp => by
  obtain ⟨q, hq, rfl⟩ := List.mem_map.mp hp
  exact h q (List.mem_reverse.mp hq)
theorem bd_app {b : Int} {a c : List Pc} (h : ∀ p ∈ a, -b ≤ p.2 ∧ p.2 ≤ b) (g : ∀ p ∈ c, -b ≤ p.2 ∧ p.2 ≤ b) : ∀ p ∈ a ++ c, -b ≤ p.2 ∧ p.2 ≤ b := fun p hp => (List.mem_append.mp hp).elim (h p) (g p)
theorem bd_con {b : Int} {a : List Pc} (h : ∀ p ∈ a, -b ≤ p.2 ∧ p.2 ≤ b) : ∀ p ∈ con a, -b ≤ p.2 ∧ p.2 ≤ b := fun p hp => by
  obtain ⟨q, hq, rfl⟩ := List.mem_map.mp hp
  have := h q (List.mem_reverse.mp hq)
  exact ⟨by show -b ≤ -q.2; omega, by show -q.2 ≤ b; omega⟩
def widP (n : Str) (p : Pc) : Int := if p.1 = n then 2 * (if p.2 < 0 then -p.2 else p.2) else 1
def wid (n : Str) (c : List Pc) : Int := (c.map (widP n)).sum
inductive Mv where
  | turn (a : Nat) | change (a b : Nat) | slide (a b : Nat) (k : Int)
def dMv : Mv → D
  | .turn a => .tup [.str "turn", .str (tx [a])]
  | .change a b => .tup [.str "change", .str (tx [a]), .str (tx [b])]
  | .slide a b k => .tup [.str "slide", .str (tx [a]), .str (tx [b]), .int k]
def slP (a b : Nat) (k : Int) (p : Pc) : List Pc := if p.1 = tx [a] then (if p.2 < 0 then (List.replicate (-p.2).toNat [(tx [b], -k), (tx [a], -1)]).flatten else (List.replicate p.2.toNat [(tx [a], 1), (tx [b], k)]).flatten) else [p]
/-- what a move makes of a cord, nothing put together -/
def mvs : Mv → List Pc → List Pc
  | .turn a, c => c.map fun p => if p.1 = tx [a] then (p.1, -p.2) else p
  | .change a b, c => c.map fun p => (if p.1 = tx [a] then tx [b] else if p.1 = tx [b] then tx [a] else p.1, p.2)
  | .slide a b k, c => (c.map (slP a b k)).flatten
def MvOk : Mv → Prop
  | .turn a => 97 ≤ a ∧ a ≤ 122
  | .change a b => 97 ≤ a ∧ a ≤ 122 ∧ 97 ≤ b ∧ b ≤ 122 ∧ a ≠ b
  | .slide a b k => 97 ≤ a ∧ a ≤ 122 ∧ 97 ≤ b ∧ b ≤ 122 ∧ a ≠ b ∧ -2 ≤ k ∧ k ≤ 2
theorem nail_mk {a : Nat} (h : 97 ≤ a) (g : a ≤ 122) : isNail (tx [a]) := ⟨a, rfl, h, g⟩
theorem mvs_nl {m : Mv} {c : List Pc} (h : MvOk m) (g : Nl c) : Nl (mvs m c) := fun p hp => by
  cases m with
  | turn a =>
    obtain ⟨q, hq, rfl⟩ := List.mem_map.mp hp
    split <;> exact g q hq
  | change a b =>
    obtain ⟨q, hq, rfl⟩ := List.mem_map.mp hp
    simp only
    split
    · exact nail_mk h.2.2.1 h.2.2.2.1
    · split
      · exact nail_mk h.1 h.2.1
      · exact g q hq
  | slide a b k =>
    obtain ⟨l, hl, hp⟩ := List.mem_flatten.mp hp
    obtain ⟨q, hq, rfl⟩ := List.mem_map.mp hl
    unfold slP at hp
    split at hp
    · split at hp
      · have := rep_mem hp
        simp only [List.mem_cons, List.not_mem_nil, or_false] at this
        rcases this with rfl | rfl
        · exact nail_mk h.2.2.1 h.2.2.2.1
        · exact nail_mk h.1 h.2.1
      · have := rep_mem hp
        simp only [List.mem_cons, List.not_mem_nil, or_false] at this
        rcases this with rfl | rfl
        · exact nail_mk h.1 h.2.1
        · exact nail_mk h.2.2.1 h.2.2.2.1
    · rw [List.mem_singleton] at hp
      rw [hp]
      exact g q hq
theorem slP_len (a b : Nat) (k : Int) (p : Pc) : ((slP a b k p).length : Int) = widP (tx [a]) p := by
  unfold slP widP
  split
  · split
    · rw [rep_len]
      simp only [List.length_cons, List.length_nil]
      omega
    · rw [rep_len]
      simp only [List.length_cons, List.length_nil]
      omega
  · rfl
theorem mvs_len (a b : Nat) (k : Int) : ∀ c : List Pc, ((mvs (.slide a b k) c).length : Int) = wid (tx [a]) c
  | [] => rfl
  | p :: c => by
    have ih := mvs_len a b k c
    have e := slP_len a b k p
    simp only [mvs, wid, List.map_cons, List.flatten_cons, List.length_append, List.sum_cons] at ih ⊢
    omega
theorem widP_nn (n : Str) (p : Pc) : 0 ≤ widP n p := by
  unfold widP
  split
  · split <;> omega
  · omega
theorem slP_zero (a b : Nat) (p : Pc) (w : List Pc) (hw : Red w) : act (slP a b 0 p) w = act [p] w := by
  have one : ∀ (m : Nat) (w : List Pc), Red w → act (List.replicate m [((tx [a] : Str), (1 : Int)), (tx [b], 0)]).flatten w = ps (tx [a], (m : Int)) w := fun m => by
    induction m with
    | zero => intro w _; show w = _; rw [show ((0 : Nat) : Int) = 0 by rfl, ps_zero]
    | succ m ih =>
      intro w hw
      rw [List.replicate_succ, List.flatten_cons, act_app, ih w hw]
      show ps (tx [a], 1) (ps (tx [b], 0) (ps (tx [a], (m : Int)) w)) = _
      rw [ps_zero, ps_ps hw]
      congr 2
      omega
  have two : ∀ (m : Nat) (w : List Pc), Red w → act (List.replicate m [((tx [b] : Str), (-0 : Int)), (tx [a], -1)]).flatten w = ps (tx [a], -(m : Int)) w := fun m => by
    induction m with
    | zero => intro w _; show w = _; rw [show -((0 : Nat) : Int) = 0 by rfl, ps_zero]
    | succ m ih =>
      intro w hw
      rw [List.replicate_succ, List.flatten_cons, act_app, ih w hw]
      show ps (tx [b], -0) (ps (tx [a], -1) (ps (tx [a], -(m : Int)) w)) = _
      rw [show (-0 : Int) = 0 by rfl, ps_zero, ps_ps hw]
      congr 2
      omega
  unfold slP
  split
  · rename_i h
    have ep : p = (tx [a], p.2) := Prod.ext h rfl
    split
    · rw [two _ _ hw]
      show _ = ps p w
      rw [ep]
      congr 2
      simp only
      omega
    · rw [one _ _ hw]
      show _ = ps p w
      rw [ep]
      congr 2
      simp only
      omega
  · rfl
theorem slide_zero (a b : Nat) : ∀ c : List Pc, Eqv (mvs (.slide a b 0) c) c
  | [] => .refl _
  | p :: c => by
    have ih := slide_zero a b c
    have : Eqv (slP a b 0 p ++ mvs (.slide a b 0) c) ([p] ++ c) := Eqv.app (fun w hw => slP_zero a b p w hw) ih
    exact this
def mvN (r : List Pc) (m : Mv) : List Pc := nf (mvs m r)
/-- the moves can be done one after the other -/
def Fit : List Pc → List Mv → Prop
  | _, [] => True
  | r, m :: ms => (MvOk m ∧ r.length ≤ 100000 ∧ Nl r ∧ Tb r ∧ ∀ a b k, m = .slide a b k → wid (tx [a]) r ≤ 4000) ∧ Fit (mvN r m) ms
theorem Fit.ok : ∀ {ms : List Mv} {r : List Pc}, Fit r ms → ∀ m ∈ ms, MvOk m
  | [], _, _ => fun _ h => by cases h
  | m :: ms, r, h => fun m' h' => by
    rcases List.mem_cons.mp h' with z | z
    · rw [z]; exact h.1.1
    · exact Fit.ok h.2 m' z
theorem Fit.snoc : ∀ {ms : List Mv} {r : List Pc} {m : Mv}, Fit r ms → Fit (ms.foldl mvN r) [m] → Fit r (ms ++ [m])
  | [], _, _, _, g => g
  | _ :: _, _, _, h, g => ⟨h.1, Fit.snoc h.2 g⟩
theorem filter_len {l : List Nat} {y : Nat} (hy : y ∈ l) (hn : l.Nodup) : (l.filter fun z => decide (z ≠ y)).length = l.length - 1 := by
  induction l with
  | nil => cases hy
  | cons z l ih =>
    rw [List.nodup_cons] at hn
    rw [List.filter_cons]
    by_cases h : z = y
    · subst h
      have : l.filter (fun w => decide (w ≠ z)) = l := List.filter_eq_self.mpr fun w hw => decide_eq_true fun e => hn.1 (e ▸ hw)
      rw [if_neg (by simp), this]
      simp
    · rw [if_pos (by simpa using h), List.length_cons, List.length_cons, ih ((List.mem_cons.mp hy).resolve_left fun e => h e.symm) hn.2]
      have : l ≠ [] := fun e => by
        rw [e] at hy
        simp at hy
        exact h hy.symm
      have := List.length_pos_iff.mpr this
      omega
/-! how great the turns grow -/
def tot (c : List Pc) : Nat := (c.map fun p => p.2.natAbs).sum
theorem tot_cons (p : Pc) (c : List Pc) : tot (p :: c) = p.2.natAbs + tot c := by simp [tot]
theorem tot_app (a b : List Pc) : tot (a ++ b) = tot a + tot b := by simp [tot]
theorem tot_mem : ∀ {c : List Pc} {p : Pc}, p ∈ c → p.2.natAbs ≤ tot c
  | q :: c, p, h => by
    rw [tot_cons]
    rcases List.mem_cons.mp h with e | e
    · rw [e]; omega
    · have := tot_mem e; omega
theorem tot_ps (p : Pc) (w : List Pc) : tot (ps p w) ≤ p.2.natAbs + tot w := by
  unfold ps
  split
  · omega
  · cases w with
    | nil => simp [tot]
    | cons l r =>
      simp only
      split
      · split
        · rw [tot_cons]; omega
        · rw [tot_cons, tot_cons]
          simp only
          omega
      · rw [tot_cons]; omega
theorem tot_nf : ∀ c : List Pc, tot (nf c) ≤ tot c
  | [] => Nat.le_refl _
  | p :: c => by
    have h := tot_nf c
    have g := tot_ps p (nf c)
    rw [tot_cons]
    show tot (ps p (nf c)) ≤ _
    omega
theorem tot_rep (m : Nat) (p q : Pc) : tot (List.replicate m [p, q]).flatten = m * (p.2.natAbs + q.2.natAbs) := by
  induction m with
  | zero => simp [tot]
  | succ m ih =>
    rw [List.replicate_succ, List.flatten_cons, tot_app, ih, Nat.succ_mul]
    simp [tot]
    omega
theorem tot_mvs {m : Mv} (h : MvOk m) : ∀ c : List Pc, tot (mvs m c) ≤ 3 * tot c
  | [] => by cases m <;> simp [mvs, tot]
  | p :: c => by
    have ih := tot_mvs h c
    rw [tot_cons]
    cases m with
    | turn a =>
      have : tot (mvs (.turn a) (p :: c)) = (if p.1 = tx [a] then (p.1, -p.2) else p).2.natAbs + tot (mvs (.turn a) c) := by simp [mvs, tot]
      rw [this]
      split
      · simp only [Int.natAbs_neg]; omega
      · omega
    | change a b =>
      have : tot (mvs (.change a b) (p :: c)) = p.2.natAbs + tot (mvs (.change a b) c) := by simp [mvs, tot]
      omega
    | slide a b k =>
      have : tot (mvs (.slide a b k) (p :: c)) = tot (slP a b k p) + tot (mvs (.slide a b k) c) := by
        rw [← tot_app]; rfl
      have hk := h.2.2.2.2.2
      have key : tot (slP a b k p) ≤ 3 * p.2.natAbs := by
        unfold slP
        split
        · split
          · rw [tot_rep]
            simp only
            have e1 : (-k).natAbs + (-1 : Int).natAbs ≤ 3 := by omega
            have e2 : (-p.2).toNat ≤ p.2.natAbs := by omega
            calc _ ≤ p.2.natAbs * 3 := Nat.mul_le_mul e2 e1
              _ = _ := by omega
          · rw [tot_rep]
            simp only
            have e1 : (1 : Int).natAbs + k.natAbs ≤ 3 := by omega
            have e2 : p.2.toNat ≤ p.2.natAbs := by omega
            calc _ ≤ p.2.natAbs * 3 := Nat.mul_le_mul e2 e1
              _ = _ := by omega
        · simp [tot]; omega
      omega
theorem tot_mvN {m : Mv} (h : MvOk m) (c : List Pc) : tot (mvN c m) ≤ 3 * tot c := Nat.le_trans (tot_nf _) (tot_mvs h c)
theorem tot_tb {c : List Pc} (h : tot c ≤ 2 ^ 120) : Tb c := fun p hp => Nat.le_trans (tot_mem hp) h
theorem tot_of {b : Nat} : ∀ {c : List Pc}, (∀ p ∈ c, p.2.natAbs ≤ b) → tot c ≤ c.length * b
  | [], _ => by simp [tot]
  | p :: c, h => by
    have := tot_of (c := c) fun q hq => h q (by simp [hq])
    have := h p (by simp)
    rw [tot_cons, List.length_cons, Nat.succ_mul]
    omega
theorem mvs_len0 {m : Mv} (hm : ∀ a b k, m ≠ .slide a b k) (c : List Pc) : (mvs m c).length = c.length := by
  cases m with
  | turn a => simp [mvs]
  | change a b => simp [mvs]
  | slide a b k => exact absurd rfl (hm a b k)
theorem On.nl {l : List Nat} {c : List Pc} (h : On l c) (g : Lt l) : Nl c := fun p hp => by
  obtain ⟨y, hy, e⟩ := h p hp
  exact ⟨y, e, g y hy⟩
/-! a move keeps what cords do -/
theorem slW_succ {a b : Nat} {k t : Int} {w : List Pc} (hw : Red w) : act (slP a b k (tx [a], t + 1)) w = act [(tx [a], 1), (tx [b], k)] (act (slP a b k (tx [a], t)) w) := by
  have back : ∀ u, Red u → act [((tx [a] : Str), (1 : Int)), (tx [b], k)] (act [(tx [b], -k), (tx [a], -1)] u) = u := fun u hu => by
    rw [← act_app]
    exact eqv_con [(tx [a], 1), (tx [b], k)] u hu
  unfold slP
  simp only [if_true]
  by_cases h : t < 0
  · have e : (-t).toNat = (-(t + 1)).toNat + 1 := by omega
    rw [if_pos h, e, List.replicate_succ, List.flatten_cons, act_app, back _ (act_red hw)]
    split
    · rfl
    · have e1 : (t + 1).toNat = 0 := by omega
      have e2 : (-(t + 1)).toNat = 0 := by omega
      rw [e1, e2]
      rfl
  · rw [if_neg h, if_neg (by omega), show (t + 1).toNat = t.toNat + 1 by omega, List.replicate_succ, List.flatten_cons, act_app]
theorem slW_add (a b : Nat) (k s t : Int) : Eqv (slP a b k (tx [a], s + t)) (slP a b k (tx [a], s) ++ slP a b k (tx [a], t)) := by
  intro w hw
  rw [act_app]
  refine up_down (p := fun s => act (slP a b k (tx [a], s + t)) w = act (slP a b k (tx [a], s)) (act (slP a b k (tx [a], t)) w)) ?_ (fun s => ?_) s
  · rw [Int.zero_add]
    unfold slP
    simp
    rfl
  · rw [show s + 1 + t = s + t + 1 by omega, slW_succ hw, slW_succ (act_red hw)]
    refine ⟨fun h => by rw [h], fun h => ?_⟩
    have bk : ∀ u, Red u → act (con [((tx [a] : Str), (1 : Int)), (tx [b], k)]) (act [(tx [a], 1), (tx [b], k)] u) = u := fun u hu => by
      rw [← act_app]
      exact eqv_con' [(tx [a], 1), (tx [b], k)] u hu
    have g := congrArg (act (con [((tx [a] : Str), (1 : Int)), (tx [b], k)])) h
    rwa [bk _ (act_red hw), bk _ (act_red (act_red hw))] at g
theorem mvs_app (m : Mv) (a b : List Pc) : mvs m (a ++ b) = mvs m a ++ mvs m b := by
  cases m <;> simp [mvs]
theorem mvs_one (m : Mv) (p : Pc) (c : List Pc) : mvs m (p :: c) = mvs m [p] ++ mvs m c := mvs_app m [p] c
theorem mvs_part (m : Mv) (n : Str) (s t : Int) : Eqv (mvs m [(n, s + t)]) (mvs m [(n, s)] ++ mvs m [(n, t)]) := by
  cases m with
  | turn a =>
    simp only [mvs, List.map_cons, List.map_nil]
    split
    · exact eqv_part (by omega)
    · exact eqv_part rfl
  | change a b =>
    simp only [mvs, List.map_cons, List.map_nil]
    exact eqv_part rfl
  | slide a b k =>
    simp only [mvs, List.map_cons, List.map_nil, List.flatten_cons, List.flatten_nil, List.append_nil]
    by_cases h : n = tx [a]
    · subst h
      exact slW_add a b k s t
    · unfold slP
      simp only [if_neg h]
      exact eqv_part rfl
theorem mvs_zero (m : Mv) (n : Str) : Eqv (mvs m [(n, 0)]) [] := by
  cases m with
  | turn a =>
    simp only [mvs, List.map_cons, List.map_nil]
    split
    · exact eqv_zero.symm
    · exact eqv_zero.symm
  | change a b =>
    simp only [mvs, List.map_cons, List.map_nil]
    exact eqv_zero.symm
  | slide a b k =>
    simp only [mvs, List.map_cons, List.map_nil, List.flatten_cons, List.flatten_nil, List.append_nil]
    unfold slP
    split
    · simp only [Int.lt_irrefl, if_false]
      exact .refl _
    · exact eqv_zero.symm
theorem mvs_ps (m : Mv) (p : Pc) (w : List Pc) : Eqv (mvs m (ps p w)) (mvs m [p] ++ mvs m w) := by
  have hp : p = (p.1, p.2) := rfl
  unfold ps
  split
  · rename_i h
    rw [hp, h]
    exact ((mvs_zero m p.1).app (Eqv.refl (mvs m w))).symm
  · cases w with
    | nil =>
      have : mvs m [] = [] := by cases m <;> rfl
      simp only [this, List.append_nil]
      exact .refl _
    | cons l r =>
      simp only
      split
      · rename_i e
        have el : l = (p.1, l.2) := Prod.ext e rfl
        have key : Eqv (mvs m [(p.1, p.2 + l.2)] ++ mvs m r) (mvs m [p] ++ mvs m (l :: r)) := by
          rw [mvs_one m l r, ← List.append_assoc]
          refine Eqv.app ?_ (.refl _)
          rw [el]
          exact mvs_part m p.1 p.2 l.2
        split
        · rename_i hs
          rw [hs] at key
          exact ((mvs_zero m p.1).symm.app (Eqv.refl (mvs m r))).trans key
        · rw [mvs_one]
          exact key
      · rw [mvs_one m p (l :: r)]
        exact .refl _
theorem mvs_nf (m : Mv) : ∀ c : List Pc, Eqv (mvs m c) (mvs m (nf c))
  | [] => by cases m <;> exact .refl _
  | p :: c => by
    have ih := mvs_nf m c
    have h := mvs_ps m p (nf c)
    rw [mvs_one]
    exact ((Eqv.refl (mvs m [p])).app ih).trans h.symm
theorem mvs_eqv (m : Mv) {c d : List Pc} (h : Eqv c d) : Eqv (mvs m c) (mvs m d) := by
  have := mvs_nf m d
  rw [← h.nf] at this
  exact (mvs_nf m c).trans this.symm
theorem mvN_nf (m : Mv) (c : List Pc) : mvN (nf c) m = nf (mvs m c) := (mvs_nf m c).nf.symm
theorem mvs_con (m : Mv) (c : List Pc) : Eqv (mvs m (con c)) (con (mvs m c)) := by
  have h1 : Eqv (mvs m (con c) ++ mvs m c) [] := by
    rw [← mvs_app]
    have := mvs_eqv m (eqv_con' c)
    have e : mvs m [] = [] := by cases m <;> rfl
    rwa [e] at this
  have h2 : Eqv (mvs m (con c)) (mvs m (con c) ++ (mvs m c ++ con (mvs m c))) := by
    have := (Eqv.refl (mvs m (con c))).app (eqv_con (mvs m c)).symm
    simpa using this
  rw [← List.append_assoc] at h2
  have h3 := h1.app (Eqv.refl (con (mvs m c)))
  exact h2.trans h3
/-- the move that undoes a move -/
def inv : Mv → Mv
  | .slide a b k => .slide a b (-k)
  | m => m
theorem inv_ok {m : Mv} (h : MvOk m) : MvOk (inv m) := by
  cases m with
  | slide a b k => exact ⟨h.1, h.2.1, h.2.2.1, h.2.2.2.1, h.2.2.2.2.1, by have := h.2.2.2.2.2; omega, by have := h.2.2.2.2.2; omega⟩
  | _ => exact h
theorem inv_inv (m : Mv) : inv (inv m) = m := by
  cases m with
  | slide a b k => show Mv.slide a b (- -k) = _; rw [Int.neg_neg]
  | _ => rfl
theorem mvs_rep (m : Mv) (n : Nat) (w : List Pc) : mvs m (List.replicate n w).flatten = (List.replicate n (mvs m w)).flatten := by
  induction n with
  | zero => cases m <;> rfl
  | succ n ih => rw [List.replicate_succ, List.replicate_succ, List.flatten_cons, List.flatten_cons, mvs_app, ih]
theorem rep_eqv {u v : List Pc} (h : Eqv u v) : ∀ n, Eqv (List.replicate n u).flatten (List.replicate n v).flatten
  | 0 => .refl _
  | n + 1 => by
    rw [List.replicate_succ, List.replicate_succ, List.flatten_cons, List.flatten_cons]
    exact h.app (rep_eqv h n)
theorem rep_pc (n : Str) (j : Int) : ∀ m : Nat, Eqv (List.replicate m [((n, j) : Pc)]).flatten [(n, m * j)]
  | 0 => by
    show Eqv [] _
    rw [show ((0 : Nat) : Int) * j = 0 by simp]
    exact eqv_zero
  | m + 1 => by
    rw [List.replicate_succ, List.flatten_cons]
    refine ((Eqv.refl [(n, j)]).app (rep_pc n j m)).trans ?_
    exact (eqv_part (by rw [show ((m + 1 : Nat) : Int) = (m : Int) + 1 by omega, Int.add_mul]; omega)).symm
theorem tx_ne {a b : Nat} (h : a ≠ b) : ¬ tx [a] = tx [b] := fun e => h (by simpa [tx_inj] using e)
theorem inv_one {m : Mv} (h : MvOk m) (p : Pc) : Eqv (mvs (inv m) (mvs m [p])) [p] := by
  cases m with
  | turn a =>
    simp only [inv, mvs, List.map_cons, List.map_nil]
    by_cases e : p.1 = tx [a]
    · simp only [if_pos e, Int.neg_neg]
      exact .refl _
    · simp only [if_neg e]
      exact .refl _
  | change a b =>
    have hn := tx_ne h.2.2.2.2
    simp only [inv, mvs, List.map_cons, List.map_nil]
    by_cases e : p.1 = tx [a]
    · simp only [if_pos e, if_neg (fun z => hn (Eq.symm z)), if_true]
      rw [← e]
      exact .refl _
    · by_cases e' : p.1 = tx [b]
      · simp only [if_neg e, if_pos e', if_true]
        rw [← e']
        exact .refl _
      · simp only [if_neg e, if_neg e']
        exact .refl _
  | slide a b k =>
    have hn := tx_ne h.2.2.2.2.1
    have hn' := tx_ne (Ne.symm h.2.2.2.2.1)
    by_cases e : p.1 = tx [a]
    · have one : Eqv (mvs (.slide a b (-k)) [(tx [a], 1), (tx [b], k)]) [(tx [a], 1)] := by
        have e1 : mvs (.slide a b (-k)) [(tx [a], 1), (tx [b], k)] = [(tx [a], 1), (tx [b], -k), (tx [b], k)] := by
          simp [mvs, slP, hn']
        rw [e1]
        have := (Eqv.refl [((tx [a] : Str), (1 : Int))]).app ((eqv_part (n := tx [b]) (a := -k) (b := k) (t := 0) (by omega)).symm.trans eqv_zero.symm)
        simpa using this
      have two : Eqv (mvs (.slide a b (-k)) [(tx [b], -k), (tx [a], -1)]) [(tx [a], -1)] := by
        have e1 : mvs (.slide a b (-k)) [(tx [b], -k), (tx [a], -1)] = [(tx [b], -k), (tx [b], k), (tx [a], -1)] := by
          simp [mvs, slP, hn']
        rw [e1]
        have := ((eqv_part (n := tx [b]) (a := -k) (b := k) (t := 0) (by omega)).symm.trans eqv_zero.symm).app (Eqv.refl [((tx [a] : Str), (-1 : Int))])
        simpa using this
      have ep : p = (tx [a], p.2) := Prod.ext e rfl
      have em : mvs (.slide a b k) [p] = slP a b k p := by simp [mvs]
      rw [em]
      unfold slP
      rw [if_pos e]
      split
      · show Eqv (mvs (.slide a b (-k)) _) _
        rw [mvs_rep]
        refine (rep_eqv two _).trans ((rep_pc _ _ _).trans ?_)
        rw [ep]
        rw [show (((-p.2).toNat : Nat) : Int) * -1 = p.2 by omega]
        exact .refl _
      · show Eqv (mvs (.slide a b (-k)) _) _
        rw [mvs_rep]
        refine (rep_eqv one _).trans ((rep_pc _ _ _).trans ?_)
        rw [ep]
        rw [show ((p.2.toNat : Nat) : Int) * 1 = p.2 by omega]
        exact .refl _
    · have em : ∀ k, mvs (.slide a b k) [p] = [p] := fun k => by simp [mvs, slP, e]
      rw [em]
      show Eqv (mvs (.slide a b (-k)) [p]) [p]
      rw [em]
      exact .refl _
theorem inv_eqv {m : Mv} (h : MvOk m) : ∀ c : List Pc, Eqv (mvs (inv m) (mvs m c)) c
  | [] => by cases m <;> exact .refl _
  | p :: c => by
    rw [mvs_one m p c, mvs_app]
    exact (inv_one h p).app (inv_eqv h c)
theorem inv_mvN {m : Mv} (h : MvOk m) {r : List Pc} (hr : Red r) : mvN (mvN r m) (inv m) = r := by
  show nf (mvs (inv m) (nf (mvs m r))) = r
  rw [(mvs_eqv (inv m) (eqv_nf (mvs m r)).symm).nf, (inv_eqv h r).nf, red_nf hr]
theorem mvN_red (r : List Pc) (m : Mv) : Red (mvN r m) := nf_red _
theorem fold_red : ∀ (ms : List Mv) {r : List Pc}, Red r → Red (ms.foldl mvN r)
  | [], _, h => h
  | m :: ms, r, _ => fold_red ms (mvN_red r m)
/-- moved there and back -/
theorem fold_back : ∀ (ms : List Mv) {r : List Pc}, (∀ m ∈ ms, MvOk m) → Red r → (ms.reverse.map inv).foldl mvN (ms.foldl mvN r) = r
  | [], r, _, _ => rfl
  | m :: ms, r, h, hr => by
    rw [List.reverse_cons, List.map_append, List.foldl_append, List.foldl_cons, fold_back ms (fun m' h' => h m' (by simp [h'])) (mvN_red r m)]
    exact inv_mvN (h m (by simp)) hr
theorem foldN_app : ∀ (ms : List Mv) (u v : List Pc), ms.foldl mvN (nf (u ++ v)) = nf (ms.foldl mvN (nf u) ++ ms.foldl mvN (nf v))
  | [], u, v => nf_app2 u v
  | m :: ms, u, v => by
    simp only [List.foldl_cons, mvN_nf, mvs_app]
    exact foldN_app ms _ _
theorem foldN_con : ∀ (ms : List Mv) (u : List Pc), ms.foldl mvN (nf (con u)) = con (ms.foldl mvN (nf u))
  | [], u => nf_con_nf u
  | m :: ms, u => by
    simp only [List.foldl_cons, mvN_nf]
    rw [(mvs_con m u).nf]
    exact foldN_con ms _
theorem foldN_inj {ms : List Mv} (h : ∀ m ∈ ms, MvOk m) {u v : List Pc} (e : ms.foldl mvN (nf u) = ms.foldl mvN (nf v)) : nf u = nf v := by
  have h1 := fold_back ms h (nf_red u)
  have h2 := fold_back ms h (nf_red v)
  rw [← h1, e, h2]
end NL

/-! The order of cords; cords led by others: rings. -/
namespace NL
open PySem PySem.Spec L2
open PyProof.Rows hiding St
theorem Br.yes {A B : Prop} {s : Tg A} {t : Tg B} (h : A) : Br true A B s t := h
theorem Br.no {A B : Prop} {s : Tg A} {t : Tg B} (h : B) : Br false A B s t := h
theorem rngD_nat {n : Nat} : (rng 0 1 n).map D.int = (List.range n).map fun i : Nat => D.int i := by simp [rng, Function.comp_def]
/-! ### the order -/
abbrev plt (a b : List Pc) : Bool := PySem.W.DatumOrd.lt (α := List (Str × Int)) a b
theorem ord_tri {α : Type} [DecidableEq α] [PySem.W.DatumOrd α] {a b : α} (h : PySem.W.DatumOrd.lt a b = false) (g : PySem.W.DatumOrd.lt b a = false) : a = b := by
  rw [← PySem.W.DatumOrd.lt_eq] at h g
  have e := PyProof.Rows.lex_total (O := PyProof.Rows.itemOrd) _ _ h g
  apply Decidable.byContradiction
  intro n
  have d : PyData.eqv (PySem.W.Datum.toD a) (PySem.W.Datum.toD b) = false := by rw [PySem.W.Datum.eqv]; simp [n]
  have z := (PySem.W.toks_eqv _ _ (PySem.W.DatumOrd.alike a b)).2 d [] [.inl 0]
  rw [e] at z
  have z1 := PySem.W.lex_pre (PySem.W.keyToks (PySem.W.Datum.toD b)) [] [.inl 0]
  rw [z1, PyProof.Rows.lex_irrefl] at z
  exact absurd z (by decide)
theorem ord_irr {α : Type} [DecidableEq α] [PySem.W.DatumOrd α] (a : α) : PySem.W.DatumOrd.lt a a = false := by
  rw [← PySem.W.DatumOrd.lt_eq]
  exact PySem.W.dataLt_self _
theorem ord_trans {α : Type} [DecidableEq α] [PySem.W.DatumOrd α] {a b c : α} (h : PySem.W.DatumOrd.lt a b = true) (g : PySem.W.DatumOrd.lt b c = true) : PySem.W.DatumOrd.lt a c = true := by
  rw [← PySem.W.DatumOrd.lt_eq] at h g ⊢
  exact PyProof.Rows.lex_trans _ _ _ h g
/-- what is not below b is not below what is below b -/
theorem ord_low {α : Type} [DecidableEq α] [PySem.W.DatumOrd α] {x a b : α} (h : PySem.W.DatumOrd.lt a b = true) (g : PySem.W.DatumOrd.lt x b = false) : PySem.W.DatumOrd.lt x a = false := by
  cases e : PySem.W.DatumOrd.lt x a with
  | false => rfl
  | true => rw [ord_trans e h] at g; exact g
theorem py_dC (c : List Pc) : py (dC c) = PySem.W.Datum.toD (α := List (Str × Int)) c := by
  show PyData.list _ = PyData.list _
  congr 1
  induction c with
  | nil => rfl
  | cons p c ih =>
    show _ :: _ = _ :: _
    congr 1
theorem dlt_dC (a b : List Pc) : dlt (dC a) (dC b) = plt a b := by
  unfold dlt
  rw [py_dC, py_dC]
  exact PySem.W.DatumOrd.lt_eq a b
theorem lik_dC (a b : List Pc) : lik (dC a) (dC b) := by
  unfold lik
  rw [py_dC, py_dC]
  exact PySem.W.DatumOrd.alike a b
/-! ### begun at another piece -/
def Rot (a b : List Pc) : Prop := ∃ x y, a = x ++ y ∧ b = y ++ x
theorem Rot.refl (a : List Pc) : Rot a a := ⟨[], a, rfl, by simp⟩
theorem Rot.symm {a b : List Pc} (h : Rot a b) : Rot b a := by
  obtain ⟨x, y, e, f⟩ := h
  exact ⟨y, x, f, e⟩
theorem Rot.trans {a b c : List Pc} (h : Rot a b) (g : Rot b c) : Rot a c := by
  obtain ⟨x, y, rfl, rfl⟩ := h
  obtain ⟨u, v, e, rfl⟩ := g
  rcases List.append_eq_append_iff.mp e with ⟨w, h1, h2⟩ | ⟨w, h1, h2⟩
  · subst h1 h2
    exact ⟨w, v ++ y, by simp, by simp⟩
  · subst h1 h2
    exact ⟨x ++ u, w, by simp, by simp⟩
theorem Rot.len {a b : List Pc} (h : Rot a b) : b.length = a.length := by
  obtain ⟨x, y, rfl, rfl⟩ := h
  simp [Nat.add_comm]
theorem Rot.mem {a b : List Pc} (h : Rot a b) {p : Pc} (hp : p ∈ b) : p ∈ a := by
  obtain ⟨x, y, rfl, rfl⟩ := h
  simp at hp ⊢
  exact hp.symm
theorem rot_at (a : List Pc) (k : Nat) : Rot a (a.drop k ++ a.take k) := ⟨a.take k, a.drop k, by simp, rfl⟩
theorem Rot.cut {a b : List Pc} (h : Rot a b) : b = a ∨ ∃ k, k < a.length ∧ b = a.drop k ++ a.take k := by
  obtain ⟨x, y, rfl, rfl⟩ := h
  cases y with
  | nil => exact .inl (by simp)
  | cons p y => exact .inr ⟨x.length, by simp, by simp⟩
/-! ### runs with unlike ends -/
theorem red_join : ∀ {a b : List Pc}, Red a → Red b → (∀ p q, a.getLast? = some p → b.head? = some q → p.1 ≠ q.1) → Red (a ++ b)
  | [], _, _, h, _ => h
  | [p], b, h, g, n => Red.mk h (fun q e => n p q rfl e) g
  | p :: q :: r, b, h, g, n => ⟨h.1, h.2.1, red_join (a := q :: r) h.2.2 g fun s t e f => n s t (by rw [List.getLast?_cons_cons]; exact e) f⟩
theorem red_part1 : ∀ {a b : List Pc}, Red (a ++ b) → Red a
  | [], _, _ => trivial
  | [p], b, h => by
    cases b with
    | nil => exact h
    | cons q r => exact h.1
  | p :: q :: a, b, h => ⟨h.1, h.2.1, red_part1 (a := q :: a) h.2.2⟩
theorem red_part2 : ∀ {a b : List Pc}, Red (a ++ b) → Red b
  | [], _, h => h
  | p :: a, b, h => red_part2 (a := a) h.tail
theorem red_meet : ∀ {a b : List Pc} {p q : Pc}, Red (a ++ b) → a.getLast? = some p → b.head? = some q → p.1 ≠ q.1
  | [], _, _, _, _, e, _ => by simp at e
  | [s], b, p, q, h, e, f => by
    cases b with
    | nil => simp at f
    | cons t b =>
      simp at e f
      subst e f
      exact h.2.1
  | s :: t :: a, b, p, q, h, e, f => red_meet (a := t :: a) h.2.2 (by rw [List.getLast?_cons_cons] at e; exact e) f
theorem red_end {a : List Pc} {g g' : Pc} (h : Red (a ++ [g])) (e : g'.1 = g.1) (n : g'.2 ≠ 0) : Red (a ++ [g']) :=
  red_join (red_part1 h) n fun p q h1 h2 => by
    simp at h2
    subst h2
    rw [e]
    exact red_meet h h1 rfl
def Cyc (i : List Pc) : Prop := Red i ∧ (2 ≤ i.length → ∀ p q, i.head? = some p → i.getLast? = some q → p.1 ≠ q.1)
theorem Cyc.rt {a b : List Pc} (c : Cyc a) (h : Rot a b) : Cyc b := by
  obtain ⟨x, y, rfl, rfl⟩ := h
  rcases x with _ | ⟨p, x⟩
  · simpa using c
  rcases y with _ | ⟨q, y⟩
  · simpa using c
  refine ⟨red_join (red_part2 c.1) (red_part1 c.1) fun s t e f => ?_, fun _ s t e f => ?_⟩
  · refine (c.2 (by simp; omega) t s ?_ ?_).symm
    · simpa using f
    · rw [List.getLast?_append, e]; rfl
  · have f' : (p :: x).getLast? = some t := by
      rw [List.getLast?_append] at f
      simpa [List.getLast?_cons] using f
    have e' : (q :: y).head? = some s := by simpa using e
    exact (red_meet c.1 f' e').symm
theorem no_ends {u v m : List Pc} {p q : Pc} (hu : u.head? = some p) (hv : v.head? = some q) (e : p.1 = q.1) : ¬ Cyc (u ++ m ++ con v) := fun c => by
  cases u with
  | nil => simp at hu
  | cons p' u =>
    cases v with
    | nil => simp at hv
    | cons q' v =>
      simp at hu hv
      subst hu hv
      refine c.2 (by simp [con_cons]; omega) p' (q'.1, -q'.2) (by simp) (by rw [con_cons, ← List.append_assoc, List.getLast?_append]; rfl) e
theorem head_app {u : List Pc} {p q : Pc} (e : p.1 = q.1) : ∃ a b : Pc, (u ++ [p]).head? = some a ∧ (u ++ [q]).head? = some b ∧ a.1 = b.1 := by
  cases u with
  | nil => exact ⟨p, q, rfl, rfl, e⟩
  | cons s u => exact ⟨s, s, rfl, rfl, rfl⟩
theorem con_head {u : List Pc} {p : Pc} : (con (u ++ [p])).head? = some (p.1, -p.2) := by simp [con]
theorem conj_rot0 : ∀ (n : Nat) (u i j : List Pc), u.length = n → Red u → Cyc i → Cyc j → nf (u ++ i ++ con u) = j → Rot i j
  | 0, u, i, j, hn, _, hi, _, e => by
    have : u = [] := List.length_eq_zero_iff.mp hn
    subst this
    have e' : nf i = j := by simpa [con] using e
    rw [red_nf hi.1] at e'
    rw [e']
    exact .refl _
  | n + 1, u, i, j, hn, hu, hi, hj, e => by
    rcases List.eq_nil_or_concat u with z | ⟨v, p, z⟩
    · rw [z] at hn; simp at hn
    rw [List.concat_eq_append] at z
    subst z
    have hv : v.length = n := by simpa using hn
    have rv : Red v := red_part1 hu
    have p0 : p.2 ≠ 0 := red_part2 hu
    have ih := fun i' h1 h2 => conj_rot0 n v i' j hv rv h1 hj h2
    have sp : v ++ [p] ++ i ++ con (v ++ [p]) = v ++ ([p] ++ i ++ [(p.1, -p.2)]) ++ con v := by rw [con_app]; simp [con]
    have whole : Red (v ++ [p] ++ i ++ con (v ++ [p])) → i ≠ [] → False := fun r _ => by
      rw [red_nf r] at e
      obtain ⟨a, b, h1, h2, h3⟩ := head_app (u := v) (p := p) (q := p) rfl
      rw [← e] at hj
      exact no_ends h1 h2 h3 hj
    rcases i with _ | ⟨a, i⟩
    · have : nf (v ++ [p] ++ con (v ++ [p])) = j := by simpa using e
      rw [nf_con] at this
      rw [← this]
      exact .refl _
    rcases List.eq_nil_or_concat i with z | ⟨m, b, z⟩
    · subst z
      by_cases ha : a.1 = p.1
      · refine ih [a] hi ?_
        rw [sp] at e
        refine Eq.trans (nf_mid v (con v) ?_) e
        intro w r
        obtain ⟨n1, t1⟩ := p
        obtain ⟨n2, t2⟩ := a
        simp only at ha
        subst ha
        simp only [List.cons_append, List.nil_append, act_cons, act_nil]
        rw [ps_ps r, ps_ps r, show t1 + (t2 + -t1) = t2 by omega]
      · refine (whole ?_ (by simp)).elim
        refine red_join (red_join hu hi.1 fun s t h1 h2 => ?_) (con_red hu) fun s t h1 h2 => ?_
        · simp at h1 h2
          subst h1 h2
          exact fun z => ha z.symm
        · rw [con_head] at h2
          simp at h1 h2
          subst h1 h2
          exact ha
    · rw [List.concat_eq_append] at z
      subst z
      have hab : a.1 ≠ b.1 := hi.2 (by simp) a b rfl (by rw [← List.cons_append, List.getLast?_append]; rfl)
      by_cases ha : a.1 = p.1
      · by_cases hs : p.2 + a.2 = 0
        · have ea : a = (p.1, -p.2) := by
            obtain ⟨n2, t2⟩ := a
            simp at ha hs ⊢
            exact ⟨ha, by omega⟩
          have rt : Rot (a :: (m ++ [b])) (m ++ [b] ++ [a]) := ⟨[a], m ++ [b], rfl, rfl⟩
          refine rt.trans (ih _ (hi.rt rt) ?_)
          rw [sp] at e
          refine Eq.trans (nf_mid v (con v) ?_) e
          rw [ea]
          have : Eqv ([p] ++ [(p.1, -p.2)]) [] := eqv_one p
          have := (this.app (Eqv.refl (m ++ [b] ++ [(p.1, -p.2)]))).symm
          simpa using this
        · exfalso
          have w : Red ((v ++ [(p.1, p.2 + a.2)]) ++ (m ++ [b]) ++ con (v ++ [p])) := by
            refine red_join (red_join (red_end hu rfl hs) hi.1.tail fun s t h1 h2 => ?_) (con_red hu) fun s t h1 h2 => ?_
            · rw [List.getLast?_append] at h1
              simp only [List.getLast?_singleton, Option.some_or, Option.some.injEq] at h1
              subst h1
              simp only
              rw [← ha]
              exact red_meet (a := [a]) hi.1 rfl h2
            · rw [con_head] at h2
              rw [← List.append_assoc, List.getLast?_append] at h1
              simp only [List.getLast?_singleton, Option.some_or, Option.some.injEq] at h1 h2
              subst h1 h2
              simp only
              rw [← ha]
              exact hab.symm
          have e2 : nf (v ++ [p] ++ (a :: (m ++ [b])) ++ con (v ++ [p])) = nf ((v ++ [(p.1, p.2 + a.2)]) ++ (m ++ [b]) ++ con (v ++ [p])) := by
            have q : Eqv ([p] ++ [a]) [(p.1, p.2 + a.2)] := by
              intro w r
              obtain ⟨n1, t1⟩ := p
              obtain ⟨n2, t2⟩ := a
              simp only at ha
              subst ha
              simp only [List.cons_append, List.nil_append, act_cons, act_nil]
              rw [ps_ps r]
            have := nf_mid v (m ++ [b] ++ con (v ++ [p])) q
            simpa using this
          rw [e2, red_nf w] at e
          obtain ⟨c, d, h1, h2, h3⟩ := head_app (u := v) (p := ((p.1, p.2 + a.2) : Pc)) (q := p) rfl
          rw [← e] at hj
          exact no_ends h1 h2 h3 hj
      · by_cases hb : b.1 = p.1
        · by_cases hs : b.2 - p.2 = 0
          · have eb : b = p := by
              obtain ⟨n2, t2⟩ := b
              obtain ⟨n1, t1⟩ := p
              simp at hb hs ⊢
              exact ⟨hb, by omega⟩
            subst eb
            have rt : Rot (a :: (m ++ [b])) ([b] ++ (a :: m)) := ⟨a :: m, [b], by simp, rfl⟩
            refine rt.trans (ih _ (hi.rt rt) ?_)
            rw [sp] at e
            refine Eq.trans (nf_mid v (con v) ?_) e
            have : Eqv ([b] ++ [(b.1, -b.2)]) [] := eqv_one b
            have := ((Eqv.refl ([b] ++ (a :: m))).app this).symm
            simpa using this
          · exfalso
            have hu2 : Red (v ++ [((p.1, -(b.2 - p.2)) : Pc)]) := red_end hu rfl (by show -(b.2 - p.2) ≠ 0; omega)
            have ra : Red (a :: m) := red_part1 (a := a :: m) (b := [b]) (by simpa using hi.1)
            have w : Red ((v ++ [p]) ++ (a :: m) ++ con (v ++ [((p.1, -(b.2 - p.2)) : Pc)])) := by
              refine red_join (red_join hu ra fun s t h1 h2 => ?_) (con_red hu2) fun s t h1 h2 => ?_
              · simp at h1 h2
                subst h1 h2
                exact fun z => ha z.symm
              · rw [con_head] at h2
                simp only [Option.some.injEq] at h2
                subst h2
                simp only
                rw [← hb]
                refine red_meet (a := a :: m) (b := [b]) (by simpa using hi.1) ?_ rfl
                rw [List.getLast?_append] at h1
                simpa [List.getLast?_cons] using h1
            have e2 : nf (v ++ [p] ++ (a :: (m ++ [b])) ++ con (v ++ [p])) = nf ((v ++ [p]) ++ (a :: m) ++ con (v ++ [((p.1, -(b.2 - p.2)) : Pc)])) := by
              have q : Eqv ([b] ++ [(p.1, -p.2)]) [(p.1, b.2 - p.2)] := by
                intro w r
                obtain ⟨n1, t1⟩ := p
                obtain ⟨n2, t2⟩ := b
                simp only at hb
                subst hb
                simp only [List.cons_append, List.nil_append, act_cons, act_nil]
                rw [ps_ps r, show t2 + -t1 = t2 - t1 by omega]
              have := nf_mid (v ++ [p] ++ (a :: m)) (con v) q
              simpa [con, Int.neg_sub] using this
            rw [e2, red_nf w] at e
            obtain ⟨c, d, h1, h2, h3⟩ := head_app (u := v) (p := p) (q := ((p.1, -(b.2 - p.2)) : Pc)) rfl
            rw [← e] at hj
            exact no_ends h1 h2 h3 hj
        · refine (whole ?_ (by simp)).elim
          refine red_join (red_join hu hi.1 fun s t h1 h2 => ?_) (con_red hu) fun s t h1 h2 => ?_
          · simp at h1 h2
            subst h1 h2
            exact fun z => ha z.symm
          · rw [con_head] at h2
            have : s = b := by
              rw [List.getLast?_append, ← List.cons_append, List.getLast?_append] at h1
              simpa using h1.symm
            simp only [Option.some.injEq] at h2
            subst this h2
            exact hb
theorem nf_led (u i : List Pc) : nf (nf u ++ i ++ con (nf u)) = nf (u ++ i ++ con u) :=
  ((((eqv_nf u).symm.app (.refl i))).app (by rw [← nf_con_nf]; exact (eqv_nf (con u)).symm)).nf
/-- b is a led about -/
def Cj (a b : List Pc) : Prop := ∃ u, nf (u ++ a ++ con u) = nf b
theorem conj_rot {i j : List Pc} (hi : Cyc i) (hj : Cyc j) (h : Cj i j) : Rot i j := by
  obtain ⟨u, e⟩ := h
  refine conj_rot0 (nf u).length (nf u) i j rfl (nf_red u) hi hj ?_
  rw [← red_nf hj.1, ← e]
  exact ((((eqv_nf u).symm.app (.refl i))).app (by rw [← nf_con_nf]; exact (eqv_nf (con u)).symm)).nf
theorem Cj.of {a b : List Pc} (h : nf a = nf b) : Cj a b := ⟨[], by simpa [con] using h⟩
theorem Cj.trans {a b c : List Pc} (h : Cj a b) (g : Cj b c) : Cj a c := by
  obtain ⟨u, e⟩ := h
  obtain ⟨v, f⟩ := g
  refine ⟨v ++ u, ?_⟩
  rw [← f]
  have := nf_mid v (con v) (nf_eqv e)
  simpa [con_app] using this
theorem Cj.symm {a b : List Pc} (h : Cj a b) : Cj b a := by
  obtain ⟨u, e⟩ := h
  refine ⟨con u, ?_⟩
  have h1 := nf_mid (con u) (con (con u)) (nf_eqv e).symm
  rw [h1, con_con]
  have h2 := (((eqv_con' u).app (Eqv.refl a)).app (eqv_con' u)).nf
  simpa using h2
theorem Rot.cj {a b : List Pc} (h : Rot a b) : Cj a b := by
  obtain ⟨x, y, rfl, rfl⟩ := h
  refine ⟨con x, ?_⟩
  rw [con_con]
  have := ((eqv_con' x).app (Eqv.refl (y ++ x))).nf
  simpa using this
theorem rot_led (o c : List Pc) : Cj c (o ++ c ++ con o) := ⟨o, rfl⟩
/-- the least of all beginnings -/
def Lst (i m : List Pc) : Prop := Rot i m ∧ ∀ x, Rot i x → plt x m = false
theorem Lst.eq {i j m n : List Pc} (h : Lst i m) (g : Lst j n) (r : Rot i j) : m = n :=
  ord_tri (g.2 m (r.symm.trans h.1)) (h.2 n (r.trans g.1))
def IsRing (c m : List Pc) : Prop := ∃ i, Cyc i ∧ Cj i c ∧ Lst i m
theorem IsRing.eq {c d m n : List Pc} (h : IsRing c m) (g : IsRing d n) (r : Cj c d) : m = n := by
  obtain ⟨i, ci, hi, li⟩ := h
  obtain ⟨j, cj, hj, lj⟩ := g
  exact li.eq lj (conj_rot ci cj ((hi.trans r).trans hj.symm))
theorem IsRing.cj {c m : List Pc} (h : IsRing c m) : Cj m c := by
  obtain ⟨i, ci, hi, li⟩ := h
  exact li.1.cj.symm.trans hi
theorem IsRing.cyc {c m : List Pc} (h : IsRing c m) : Cyc m := by
  obtain ⟨i, ci, hi, li⟩ := h
  exact ci.rt li.1
theorem IsRing.own {c m : List Pc} (h : IsRing c m) : IsRing m m := by
  obtain ⟨i, ci, hi, li⟩ := h
  exact ⟨m, ci.rt li.1, .of rfl, .refl _, fun x r => li.2 x (li.1.trans r)⟩
/-- a least one among the first n beginnings -/
def Low (i : List Pc) (n k : Nat) : Prop := k ≤ i.length ∧ ∀ j, j < n → plt (i.drop j ++ i.take j) (i.drop k ++ i.take k) = false
theorem Low.all {i : List Pc} {k : Nat} (h : Low i i.length k) : Lst i (i.drop k ++ i.take k) := by
  refine ⟨rot_at i k, fun x r => ?_⟩
  rcases r.cut with z | ⟨j, hj, z⟩
  · subst z
    cases x with
    | nil => simp; exact ord_irr _
    | cons p x =>
      have := h.2 0 (by simp)
      simpa using this
  · subst z
    exact h.2 j hj
/-! ### name = f(..), a new list or a thing -/
variable [KC]
section
variable {X : Cx} {E : XK} {e : Expr} {es : List Expr} {pos p : Pos} {wl : WL} {k : Nat} {f : Addr} {fd : FuncData} {ps : List Str} {sp : Spec} {x : Str}
def setV (q : DEnds) (ρ : Ev) (i : Nat) : Rt → Prop
  | .new (.lst xs) => q.nx (ρ.set i (.own false (.lst xs)))
  | .new _ => False
  | .val d => q.nx (ρ.set i (.fz d))
  | .newT d => q.nx (ρ.set i (.fz d))
def wsSetV (i : Nat) (sp : Spec) (wl : WL) : WS := fun q ρ => wl q.ex ρ fun ds => Ask sp ds q.ex (setV q ρ i) ⟨⟩
theorem sd_setV (i : Nat) {y : Str} {p2 spos : Pos} (hN : X.N.Nodup) (G : FnOk X.prog X.w X.K X.mg X.base (L2N.CX X.prog X.w) k f fd ps (spOf X.mg sp)) (hr : Room k X.A) (xk : XOk X E) (hg : Gl X x) (hm : X.mg x = some (.ref f)) (hk : PySem.W.keepIn X.K (.ref f) = true) (hb : Binds X.K fd ps [])
    (ha : AD X E (e :: es) wl) (hdb : (x == ("__debug__" : Str)) = false := by decide) (he : starEach (e :: es) X.env = (false, eval e X.env) :: starEach es X.env := by rfl) (hpl : (backTo pos (starEach es X.env)).any (·.1) = false := by rfl)
    (hi : X.N[i]? = some y := by rfl) (hx : Loc X.env.scope y := by first | exact Or.inl rfl | exact Or.inr rfl) (hs : swapsWith (.Call (.Name x p) (e :: es) [] pos) (some (.Name y p2)) spos.line X.env = pure false := by rfl)
    (hf : X.fn y = true ∨ X.env.scope.names.lookup y = some .local := by first | exact .inl rfl | exact .inr rfl) : SD X E (.Assign [.Name y p2] (.Call (.Name x p) (e :: es) [] pos) spos) (wsSetV i sp wl) := by
  obtain ⟨t, pt, s⟩ := ha.ex
  refine ⟨_, ps_set hN hi hx (pe_call G hr hg hm hk hb .nil xk.pass pt hdb he hpl) hs hf, fun q ρ hw F σ H S D rp o => ?_⟩
  refine s q.ex ρ _ hw F σ H S _ rp (o.exOk rp) fun ds vs H1 S1 q1 g1 h1 => ?_
  refine ⟨ds, S1, q.ex, _, ⟨g1.sh, (rp.grow g1).fg.tb⟩, by rw [List.append_nil]; exact h1, q1, fun r v H2 S2 q2 g2 h2 => ?_, fun n C H2 S2 xn hC g2 => (o.exOk rp) n C H2 S2 xn hC (g1.trans g2)⟩
  cases r with
  | val d => exact o.nx _ _ H2 S2 q2 ((rp.grow (g1.trans g2)).set h2)
  | newT d => exact o.nx _ _ H2 S2 q2 ((rp.grow (g1.trans g2)).set h2.1)
  | new c =>
    cases c with
    | dct _ _ => exact q2.elim
    | obj _ _ _ => exact q2.elim
    | lst xs =>
      obtain ⟨p, u, rfl, z0, z1, z2, ws, rfl, z3⟩ := h2
      exact o.nx _ _ H2 S2 q2 ((rp.grow (g1.trans g2)).setOwn z1 z2 ⟨ws, rfl, z3⟩ (fg_free rp.fg (g1.freeH z0)) (own_ne rp (g1.freeH z0)))
end
end NL

/-! Errors caught: try .. except C as e, isinstance of e, defs that e is handed to. -/
namespace NL
open PySem PySem.Spec L2
open PyProof.Rows hiding St
/-- whether an error of the class n is one of the class m -/
def isSubN (n m : Str) : Bool := decide (m = "HangError") || decide (n = m)
/-- the own classes: what isinstance and except ask of them -/
def AskT (K : PySem.W.Frag) (mg : Str → Option Value) (an : List Str) : Prop :=
  ∀ m ∈ an, ∃ D, mg m = some (.ref D) ∧ PySem.W.typeIn K (.ref D) = some (.type "type") ∧ PySem.W.hasDictIn K D = true ∧ PySem.W.subIn K (.ref D) (.type "BaseException") = some true
def ErrT (K : PySem.W.Frag) (mg : Str → Option Value) (cn an : List Str) : Prop :=
  ∀ n ∈ cn, ∃ C, mg n = some (.ref C) ∧ L2.ExcC K C ∧ PySem.W.subIn K (.ref C) (.type "ValueError") = some true ∧ PySem.W.subIn K (.ref C) (.ref C) = some true ∧ ∀ m ∈ an, ∃ D, mg m = some (.ref D) ∧ PySem.W.subIn K (.ref C) (.ref D) = some (isSubN n m)
theorem all_nil {P : Str → Prop} : ∀ n ∈ ([] : List Str), P n := fun _ h => by cases h
theorem all_cons {P : Str → Prop} {m : Str} {l : List Str} (h : P m) (g : ∀ n ∈ l, P n) : ∀ n ∈ m :: l, P n := fun n hn => by
  rcases List.mem_cons.mp hn with rfl | hn
  · exact h
  · exact g n hn
theorem kit_ref {K : PySem.W.Frag} {C D : Addr} {b : Bool} (h1 : PySem.W.subIn K (.ref C) (.ref C) = some true) (ht : PySem.W.typeIn K (.ref D) = some (.type "type")) (hd : PySem.W.hasDictIn K D = true) (h : PySem.W.subIn K (.ref C) (.ref D) = some b) :
    PySem.W.kitOne K (.ref C) (.ref D) = some b := by
  unfold PySem.W.kitOne
  by_cases e : C = D
  · subst e
    rw [if_pos (beq_self_eq_true _), ← h1, h]
  · rw [if_neg (fun z => e (Value.ref.inj (beq_iff_eq.mp z)))]
    obtain ⟨cd, hc, _⟩ := PySem.W.any_some hd
    have e2 : ((PySem.W.clsIn K D).isSome && PySem.W.typeIn K (.ref D) == some (.type "type")) = true := by rw [hc, ht] <;> rfl
    show (if ((PySem.W.clsIn K D).isSome && PySem.W.typeIn K (.ref D) == some (.type "type")) = true then PySem.W.subIn K (.ref C) (.ref D) else none) = some b
    rw [if_pos e2, h]
theorem kit_val {K : PySem.W.Frag} {C : Addr} (h : PySem.W.subIn K (.ref C) (.type "ValueError") = some true) : PySem.W.kitOne K (.ref C) (.type "ValueError") = some true := by
  unfold PySem.W.kitOne
  rw [if_neg (fun z => by cases (beq_iff_eq.mp z))]
  show (if PySem.W.kitMeta "ValueError" = true then PySem.W.subIn K (.ref C) (.type "ValueError") else none) = some true
  rw [if_pos (by decide +kernel), h]
/-- p's error, of the class at C, is at hand -/
structure ErrP (p : Addr × Obj) (C : Addr) : Prop where
  z : L2N.Zn (.ref C) none p.2
  f : ∃ vs, p.2.data = .fields vs
/-- the context knows the error at a, of the class n -/
def HotE (X : Cx) (a : Addr) (n : Str) : Prop := ∃ (p : Addr × Obj) (C : Addr), p ∈ X.pn ∧ p.1 = a ∧ X.mg n = some (.ref C) ∧ ErrP p C
theorem call_isP {X : Cx} {p : Addr × Obj} {C : Addr} (hp : p ∈ X.pn) (c : L2.ExcC X.K C) (e : ErrP p C) : CallR X (.builtin "isinstance") (rIsE X.K C p.1) := by
  intro pins s σ H xs us Q inv rel hyp
  obtain ⟨cl, cv, ans, rfl, tell, kit, fin⟩ := hyp
  match rel with
  | .cons ra (.cons rb .nil) =>
    obtain rfl := tell _ rb
    cases ra
    have at1 := (inv.pin p (List.mem_append_left _ hp)).1
    have inst : PySem.W.InstAt s.heap p.1 p.2 C none := by
      obtain ⟨a, o⟩ := p
      obtain ⟨⟨z1, z2, _⟩, vs, z3⟩ := e
      cases o
      simp only at z1 z2 z3
      subst z1 z2 z3
      exact ⟨at1, rfl, rfl, trivial⟩
    have kx := PySem.W.handS_kitx_exc (x := p.1) (ox := p.2) c.hg c.hk c.hs c.hd c.ha c.hn c.ht c.hm
    exact PySem.W.kia_one kx inv.kIn inst kit (fun z => nomatch z) (fun tk => ⟨.bl ans, H, inv.kept (t' := tk) (fun _ _ w => w), rfl, fin⟩)
section
variable [KC] {X : Cx} {E : XK} {e : Expr} {es : List Expr} {pos p q : Pos} {wa : WE} {wl : WL} {cn an : List Str} {a : Addr} {n m x : Str}
def wIsE (a : Addr) (n m : Str) (wa : WE) : WE := fun x ρ Q => wa x ρ fun d => d = .ref a ∧ Q (.bl (isSubN n m))
def wIsV (a : Addr) (wa : WE) : WE := fun x ρ Q => wa x ρ fun d => d = .ref a ∧ Q (.bl true)
theorem ed_isE (hx : HotE X a n) (er : ErrT X.K X.mg cn an) (ak : AskT X.K X.mg an) (hn : n ∈ cn) (hm : m ∈ an) (hg : Gl X "isinstance") (hmi : X.mg "isinstance" = none) (hgm : Gl X m) (hdm : (m == ("__debug__" : Str)) = false) (ha : ED X E e wa)
    (he : starEach (e :: [.Name m q]) X.env = (false, eval e X.env) :: starEach [.Name m q] X.env := by rfl) (he2 : starEach [.Name m q] X.env = (false, eval (.Name m q) X.env) :: starEach [] X.env := by rfl) (hpl : (backTo pos (starEach [.Name m q] X.env)).any (·.1) = false := by rfl) :
    ED X E (.Call (.Name "isinstance" p) [e, .Name m q] [] pos) (wIsE a n m wa) := by
  obtain ⟨t, pt, s⟩ := ha.ex
  obtain ⟨r, C, hr, rfl, hC, err⟩ := hx
  obtain ⟨C', g1, g2, g3, g4, g5⟩ := er n hn
  obtain ⟨D, d1, d2⟩ := g5 m hm
  obtain ⟨D', d3, d4, d5, _⟩ := ak m hm
  rw [hC] at g1
  cases g1
  rw [d1] at d3
  cases d3
  have pT : PE X (.Name m q) (tC (.ref D)) := pe_glob hgm d1 rfl hdm
  refine ⟨_, pe_callB (call_isP hr g2 err) hg hmi (by decide +kernel) (pa_cons pt (pa_cons pT pa_nil he2) he) (by decide) (by decide) he hpl, fun x ρ Q hw F σ H S Q' rp ex k => ?_⟩
  refine s x ρ _ hw F σ H S _ rp ex fun d u H1 S1 q1 g1 h1 => ?_
  obtain ⟨rfl, q2⟩ := q1
  unfold Dat at h1
  subst h1
  exact ⟨.ref D, .ref D, _, rfl, fun u hu => hu, kit_ref g4 d4 d5 d2, k _ _ H1 S1 q2 g1 .b⟩
theorem ed_isV (hx : HotE X a n) (er : ErrT X.K X.mg cn an) (hn : n ∈ cn) (hg : Gl X "isinstance") (hmi : X.mg "isinstance" = none) (hgm : Gl X "ValueError") (hmv : X.mg "ValueError" = none) (ha : ED X E e wa)
    (he : starEach (e :: [.Name "ValueError" q]) X.env = (false, eval e X.env) :: starEach [.Name "ValueError" q] X.env := by rfl) (he2 : starEach [.Name "ValueError" q] X.env = (false, eval (.Name "ValueError" q) X.env) :: starEach [] X.env := by rfl) (hpl : (backTo pos (starEach [.Name "ValueError" q] X.env)).any (·.1) = false := by rfl) :
    ED X E (.Call (.Name "isinstance" p) [e, .Name "ValueError" q] [] pos) (wIsV a wa) := by
  obtain ⟨t, pt, s⟩ := ha.ex
  obtain ⟨r, C, hr, rfl, hC, err⟩ := hx
  obtain ⟨C', g1, g2, g3, g4, g5⟩ := er n hn
  rw [hC] at g1
  cases g1
  have pT : PE X (.Name "ValueError" q) (tC (.ty "ValueError")) := pe_bltn hgm hmv (by decide +kernel) rfl (by decide) (by decide)
  refine ⟨_, pe_callB (call_isP hr g2 err) hg hmi (by decide +kernel) (pa_cons pt (pa_cons pT pa_nil he2) he) (by decide) (by decide) he hpl, fun x ρ Q hw F σ H S Q' rp ex k => ?_⟩
  refine s x ρ _ hw F σ H S _ rp ex fun d u H1 S1 q1 g1 h1 => ?_
  obtain ⟨rfl, q2⟩ := q1
  unfold Dat at h1
  subst h1
  exact ⟨.ty "ValueError", .type "ValueError", _, rfl, fun u hu => hu, kit_val g3, k _ _ H1 S1 q2 g1 .b⟩
end
/-! ### a def that an error is handed to, while it is handled -/
structure FnE (P : Program) (w : World) (K : PySem.W.Frag) (mg : Str → Option Value) (base : Heap) [KC] (cn : List Str) (k : Nat) (f : Addr) (fd : FuncData) (ps : List Str) (sp : Addr → Str → Spec) : Prop where
  len : ∀ a n ds x R, sp a n ds x R → ds.length = ps.length
  run : ∀ (A : Around) (outer : List Env) (s : Shared) (H : Hp) (args : Args) (us : List Value) (vs : List V) (p : Addr × Obj) (n : Str) (C : Addr) (ds : List D) (S : Hp) (R : Rt → Prop) (Q : VK),
    L2H.RoomH k A → L2H.PinOk outer H s p → n ∈ cn → mg n = some (.ref C) → ErrP p C → Env0 P w K mg base A outer s H → BindsTo s fd args (ps.zip us) → Vals vs us → (Same S H ∧ Tbq S H) → Dats S ds vs → sp p.1 n ds (fun _ => False) R →
    (∀ r v H' S', R r → Grow H S H' S' → RtP H H' S' r v → Q v H') → codeAny (model P w) A (.call (.ref f) args) (CR (L2N.CX P w) outer P w H s Q E0) s
abbrev cxE (P : Program) (w : World) (K : PySem.W.Frag) (mg : Str → Option Value) (base : Heap) (N : List Str) (qual : Str) (sc : Scope) (f : Addr) (cdv : Value) (A : Around) (outer : List Env) (s : Shared) (H : Hp) (p : Addr × Obj) : Cx :=
  L2H.cxH (L2N.CX P w) P w K mg base N qual sc f cdv A outer s H E0 p
section
variable [KC] {P : Program} {w : World} {K : PySem.W.Frag} {mg : Str → Option Value} {base : Heap}
theorem fn_okE {cn : List Str} {x qual : Str} {st : Stmt} {f : Addr} {fd : FuncData} {N ps : List Str} {k : Nat} {sp : Addr → Str → Spec} (F : Fun K x qual st f fd) (S : FnScope N ps (defScope st)) (len : ∀ a n ds x R, sp a n ds x R → ds.length = ps.length)
    (hbody : ∀ (cdv : Value) (A : Around) (outer : List Env) (s : Shared) (H : Hp) (p : Addr × Obj) (n : Str), n ∈ cn → L2H.RoomH k (A.deeper (envOfC qual (defScope st) s.heap.objs.size f cdv)) → HotE (cxE P w K mg base N qual (defScope st) f cdv A outer s H p) p.1 n →
      ∃ ws, SDs (cxE P w K mg base N qual (defScope st) f cdv A outer s H p) E0 (defBody st) ws ∧ ∀ ds R, sp p.1 n ds (fun _ => False) R → ws (endsOf R fun _ => False) (startE N.length ds)) :
    FnE P w K mg base cn (k + 1) f fd ps sp := by
  obtain ⟨oc, od, kV, doc, pm, ann, cdv, ct, osl, rfl, found, code⟩ := F.ex
  refine ⟨len, fun A outer s H args us vs p n C ds S0 R Q room pin hcn gC err env0 bind rel ⟨sh, tb⟩ dat ask give => ?_⟩
  have nps : ps.length ≤ N.length := by
    have := congrArg List.length S.pre
    simp only [List.length_take] at this
    omega
  have nds := len _ _ _ _ _ ask
  have nvs : vs.length = ps.length := by rw [dat.len, nds]
  have inK : K.In s.heap := env0.mod.kin.keeps (fun b o z => (env0.bs b o z).1)
  have noLim : s.heap.NoLimit := env0.mod.nolimit.keeps (fun b o z => (env0.bs b o z).1)
  refine codeAny_call_function room.depth (inK _ _ found) rfl S.co S.gen rfl (PySem.W.codeRec_of inK code) (bind _ _ _ _ (wpAny_newFunctionEnv_cells S.kind ?_ (fun env he s1 made => ?_)))
  · rintro ⟨y, v⟩ hy
    rcases S.par y (List.of_mem_zip hy).1 with z | z
    · exact .inl z
    · exact .inr ⟨z, PySem.W.cellsFrom_some _ _ _ (.inl z)⟩
  · subst he
    refine ⟨noLim.keeps made.toInCall.keep, codeAny_func ?_⟩
    have start : Inv (cxE P w K mg base N qual (defScope st) f cdv A outer s H p) [] (L2.start N vs) H s1 := L2H.inv_startH S pin env0 nvs rel made
    obtain ⟨ws, sd, pure⟩ := hbody cdv A outer s H p n hcn (room.deeper _) ⟨p, C, List.mem_singleton.mpr rfl, rfl, gC, err⟩
    obtain ⟨t, pt, so⟩ := sd.ex
    have gr : ∀ {H' S' : Hp}, FGrow { H0 := H, S0 := S0, M := fun _ => False } H' S' → Grow H S0 H' S' := fun g => ⟨⟨fun a o z n => g.hh a o (fun y => y) z n, g.al, g.ft⟩, g.ss, g.sh, g.nw⟩
    have word := so _ _ (pure ds R ask) _ _ H S0 { nx := fun _ H' => Q .non H', rt := Q } (rep_start (N := N) sh tb dat (by omega)) ⟨fun ρ σ H' S' z r => give _ _ H' S' z (gr r.fg) (show Dat S' .non .non from .n), fun r ρ v σ H' S' z rp y => give r v H' S' z (gr rp.fg) y, fun _ _ _ _ z => z.elim, fun _ _ _ _ z => z.elim, fun _ _ _ _ z => z.elim⟩
    have close : ∀ {σ' : L2.St} {H' : Hp} {v : V} {u : Value} {s' : Shared}, Inv (cxE P w K mg base N qual (defScope st) f cdv A outer s H p) [] σ' H' s' → RelV v u → Q v H' → CE outer P w H s Q u s' := fun J rv z => ⟨_, _, J.os, J.bare, J.base, J.hok, rv, z⟩
    refine wpAny_mono (pt.run [] s1 (L2.start N vs) H _ start word) (fun fl s' out => ?_) (fun e s' out => out)
    match fl, out with
    | .ret u, ⟨v, σ', H', J, rv, z⟩ => exact close J rv z
    | .next, ⟨σ', H', J, z⟩ => exact close (v := V.non) (u := Value.none) J rfl z
    | .brk, ⟨_, _, _, z⟩ => exact z.elim
    | .cont, ⟨_, _, _, z⟩ => exact z.elim
end
section
variable [KC] {X : Cx} {E : XK} {e : Expr} {es : List Expr} {pos p q : Pos} {wa : WE} {wl : WL} {a : Addr} {n x : Str} {k : Nat} {f : Addr} {fd : FuncData} {ps : List Str} {sp : Addr → Str → Spec}
def wCallE (sp : Spec) (wl : WL) : WE := fun x ρ Q => wl x ρ fun ds => Ask sp ds (fun _ => False) (fun r => Q r.d) ⟨⟩
theorem ed_callE {cn : List Str} (hx : HotE X a n) (hcn : n ∈ cn) (G : FnE X.prog X.w X.K X.mg X.base cn k f fd ps sp) (hr : L2H.RoomH k X.A) (hg : Gl X x) (hm : X.mg x = some (.ref f)) (hk : PySem.W.keepIn X.K (.ref f) = true) (hb : Binds X.K fd ps [])
    (ha : AD X E (e :: es) wl) (hdb : (x == ("__debug__" : Str)) = false := by decide) (he : starEach (e :: es) X.env = (false, eval e X.env) :: starEach es X.env := by rfl) (hpl : (backTo pos (starEach es X.env)).any (·.1) = false := by rfl) :
    ED X E (.Call (.Name x p) (e :: es) [] pos) (wCallE (sp a n) wl) := by
  obtain ⟨t, pt, s⟩ := ha.ex
  obtain ⟨r, C, hr1, rfl, hC, err⟩ := hx
  refine ⟨fun σ H Q' => t σ H fun vs H1 => ∃ ds S R, (Same S H1 ∧ Tbq S H1) ∧ Dats S ds vs ∧ sp r.1 n ds (fun _ => False) R ∧ ∀ z v H' S', R z → Grow H1 S H' S' → RtP H1 H' S' z v → Q' v H', ⟨fun pins st σ H Q I h => ?_⟩, fun x ρ Q hw F σ H S Q' rp ex k => ?_⟩
  · refine wpAny_Call_Name_kw (ld_glob I hg hm ?_ hdb)
    refine PySem.W.callWith_K (h₀ := X.base) I.ok.mod.kin hk (thn (pt.run pos pins st σ H _ I h) (fun us s1 ⟨vs, H1, I1, rel, ds, S, R, sh, dat, ask, give⟩ => ⟨I1.kIn, ?_⟩)) he hpl
    have nds := G.len _ _ _ _ _ ask
    have nus : us.length = ps.length := by rw [← rel.length, dat.len, nds]
    have bnd := hb s1 us I1.kIn (by rw [List.append_nil]; exact nus)
    rw [List.append_nil] at bnd
    obtain ⟨p1, p2, p3, p4, p5⟩ := I1.pin r (List.mem_append_left _ hr1)
    have pin : L2H.PinOk X.stack H1 s1 r := ⟨p1, p2, fun z => (List.mem_cons.mp (I1.stkSub r.1 z)).elim p3 p4, p5⟩
    refine wpAny_call (codeAny_mono (G.run X.A X.stack s1 H1 ⟨us, []⟩ us vs r n C ds S R Q hr pin hcn hC err I1.env0 bnd rel sh dat ask give) fun res s' out => ?_)
    match res, out with
    | .ok (.ret u), out => exact I1.after out
    | .error e, out =>
      obtain ⟨_, _, _, _, _, _, _, _, _, _, _, _, z⟩ := out
      exact z.elim
  · refine s x ρ _ hw F σ H S _ rp ex fun ds vs H1 S1 q1 g1 h1 => ?_
    refine ⟨ds, S1, _, ⟨g1.sh, (rp.grow g1).fg.tb⟩, h1, q1, fun z v H2 S2 q2 g2 h2 => ?_⟩
    obtain ⟨S3, g3, h3⟩ := h2.dat g2
    exact k _ _ H2 S3 q2 (g1.trans g3) h3
end
/-! ### try: f(..) / x = f(..) except C as e: suite -/
section
variable [KC] {X : Cx} {E : XK} {e : Expr} {es : List Expr} {wl : WL} {x nm cn' : Str} {k : Nat} {f : Addr} {fd : FuncData} {ps : List Str} {sp : Spec} {b0 : Stmt} {suite : List Stmt} {p np pos pos1 pos2 pos3 : Pos} {HE : Addr} {cn an : List Str} {ws : Addr → Str → WS}
def canA (mg : Str → Option Value) (w : WL) : TA := fun σ H Q' => ∃ (x : XS) (ρ : Ev) (Q : List D → Prop) (F : Fr) (S : Hp), w x ρ Q ∧ Rep F ρ σ H S ∧ ExOk mg E0 x H S ∧ ∀ ds vs H' S', Q ds → Grow H S H' S' → Dats S' ds vs → Q' vs H'
theorem AD.can (h : AD X E0 es wl) : PA X es (canA X.mg wl) := by
  obtain ⟨t, p, s⟩ := h.ex
  refine ⟨fun ps pins st σ H Q I hq => ?_⟩
  obtain ⟨x, ρ, Q2, F, S, h1, h2, h3, h4⟩ := hq
  exact p.run ps pins st σ H Q I (s x ρ Q2 h1 F σ H S Q h2 h3 h4)
def canS (mg : Str → Option Value) (cn : List Str) (ws : Addr → Str → WS) : Addr → Value → Option Addr → TS := fun a cls d D σ H => ∃ (n : Str) (C : Addr) (q : DEnds) (ρ : Ev) (F : Fr) (S : Hp), n ∈ cn ∧ mg n = some (.ref C) ∧ cls = .ref C ∧ d = none ∧ ws a n q ρ ∧ Rep F ρ σ H S ∧ EndsOk mg E0 F q D
/-- the suite's ends: the name is taken away -/
def DEnds.off (q : DEnds) (i : Nat) : DEnds := { nx := fun ρ => q.nx (ρ.set i .un), rt := q.rt, bk := fun ρ => q.bk (ρ.set i .un), ct := fun ρ => q.ct (ρ.set i .un), ex := fun _ => False }
def wTry (cn : List Str) (i : Nat) (sp : Spec) (wl : WL) (st : Rt → Ev → Ev) (ws : Addr → Str → WS) : WS := fun q ρ => wl (fun _ => False) ρ fun ds => Ask sp ds (fun n => n ∈ cn ∧ ∀ a, ws a n (q.off i) (ρ.set i (.fz (.ref a)))) (fun r => q.nx (st r ρ)) ⟨⟩
theorem EndsOk.off {mg : Str → Option Value} {F : Fr} {q : DEnds} {D : Ends} {i : Nat} (o : EndsOk mg E F q D) : EndsOk mg E0 F (q.off i) { nx := fun σ' H' => D.nx (σ'.set i none) H', rt := D.rt, bk := fun σ' H' => D.bk (σ'.set i none) H', ct := fun σ' H' => D.ct (σ'.set i none) H' } :=
  ⟨fun ρ σ H S h r => o.nx _ _ H S h r.unset, o.rt, fun ρ σ H S h r => o.bk _ _ H S h r.unset, fun ρ σ H S h r => o.ct _ _ H S h r.unset, fun _ _ _ _ z => z.elim⟩
theorem exm_of {K : PySem.W.Frag} {C D : Addr} (t : PySem.W.typeIn K (.ref D) = some (.type "type")) (d : PySem.W.hasDictIn K D = true) (b : PySem.W.subIn K (.ref D) (.type "BaseException") = some true) {v : Bool} (h : PySem.W.subIn K (.ref C) (.ref D) = some v) : PySem.W.exmOne K (.ref C) (.ref D) = some v :=
  PySem.W.exm_ref b d t h
/-- try: f(..) -/
theorem sd_tryE (i : Nat) (G : FnOk X.prog X.w X.K X.mg X.base (L2N.CX X.prog X.w) k f fd ps (spOf X.mg sp)) (hr : Room k X.A) (hg : Gl X x) (hm : X.mg x = some (.ref f)) (hk : PySem.W.keepIn X.K (.ref f) = true) (hb : Binds X.K fd ps [])
    (ha : ∀ (pn : List (Addr × Obj)) (xe : Value → Shared → Prop), AD (X.tr pn xe) E0 (e :: es) wl) (er : ErrT X.K X.mg cn an) (ak : AskT X.K X.mg an) (hH : ("HangError" : Str) ∈ an)
    (hsu : ∀ (a : Addr) (n : Str) (pn : List (Addr × Obj)), n ∈ cn → HotE (X.suite a pn) a n → SDs (X.suite a pn) E0 (b0 :: suite) (ws a n))
    (hgH : Gl X "HangError") (hst : X.stack = X.env :: X.outer := by rfl) (hfr : X.env.frame = some X.env.locals := by rfl) (hN : X.N.Nodup) (hi : X.N[i]? = some nm := by rfl) (hln : X.env.kindOf nm = some .local := by rfl)
    (hdb : (x == ("__debug__" : Str)) = false := by decide) (he : starEach (e :: es) X.env = (false, eval e X.env) :: starEach es X.env := by rfl) (hpl : (backTo pos (starEach es X.env)).any (·.1) = false := by rfl) (hs : swapsWith (.Call (.Name x p) (e :: es) [] pos) none pos1.line X.env = pure false := by rfl) :
    SD X E (.Try [.Expr (.Call (.Name x p) (e :: es) [] pos) pos1] [.ExceptHandler (some (.Name "HangError" np)) (some nm) (b0 :: suite) pos2] [] [] pos3) (wTry cn i sp wl (fun _ ρ => ρ) ws) := by
  obtain ⟨HA, m1, m2, m3, m4⟩ := ak _ hH
  refine ⟨_, L2N.ps_try_as (c := .ref HA) (i := i) (ts := canS X.mg cn ws) (tb := fun W => tSeq (tDrop (tCallS (spOf X.mg sp) (L2.WE W) (canA X.mg wl))) tNext) hst hfr hN hi hln ⟨hgH, by decide, .inl m1⟩ takesN (fun W pn xe tk _ => ?_) (fun a oe cls d pn hz hf => ⟨fun pins s σ H D I h => ?_⟩), fun q ρ hw F σ H S D rp o => ?_⟩
  · exact pss_one (ps_expr (pe_callS (X := X.tr pn xe) G hr hg hm hk hb (fun σ => L2N.passAt tk σ) (ha pn xe).can hdb he hpl) hs)
  · obtain ⟨n, C, q, ρ, F, S, hn, gC, rfl, rfl, hw, rp, o⟩ := h
    obtain ⟨t, pt, so⟩ := (hsu a n _ hn ⟨(a, oe), C, List.mem_cons_self, rfl, gC, ⟨hz, hf⟩⟩).ex
    exact pt.run pins s σ H D I (so q ρ hw F σ H S D rp o)
  · refine ⟨fun _ => False, ρ, _, F, S, hw, rp, (fun _ _ _ _ z => z.elim), fun ds vs H1 S1 ask g1 h1 => ⟨ds, S1, _, _, ⟨g1.sh, (rp.grow g1).fg.tb⟩, h1, ask, fun r v H2 S2 q2 g2 h2 => ?_, fun n C H2 S2 hx hC g2 => ?_⟩⟩
    · obtain ⟨S3, g3, h3⟩ := h2.dat g2
      exact o.nx _ _ H2 S3 q2 (rp.grow (g1.trans g3))
    · obtain ⟨hn, hx⟩ := hx
      obtain ⟨C', c1, c2, c3, c4, c5⟩ := er n hn
      obtain ⟨D', d1, d2⟩ := c5 _ hH
      rw [m1] at d1
      cases d1
      rw [hC] at c1
      cases c1
      have yes : isSubN n "HangError" = true := by simp [isSubN]
      refine ⟨true, by rw [exm_of m2 m3 m4 d2, yes], fun _ b hb => ?_, fun z => nomatch z⟩
      exact ⟨n, C, q.off i, _, F, S2, hn, hC, rfl, rfl, hx b, (rp.grow (g1.trans g2)).set (d := .ref b) (by unfold Dat; rfl), o.off⟩
/-- try: y = f(..) -/
theorem sd_tryA (i j : Nat) {y : Str} {py : Pos} (G : FnOk X.prog X.w X.K X.mg X.base (L2N.CX X.prog X.w) k f fd ps (spOf X.mg sp)) (hr : Room k X.A) (hg : Gl X x) (hm : X.mg x = some (.ref f)) (hk : PySem.W.keepIn X.K (.ref f) = true) (hb : Binds X.K fd ps [])
    (ha : ∀ (pn : List (Addr × Obj)) (xe : Value → Shared → Prop), AD (X.tr pn xe) E0 (e :: es) wl) (er : ErrT X.K X.mg cn an) (ak : AskT X.K X.mg an) (hH : ("HangError" : Str) ∈ an)
    (hsu : ∀ (a : Addr) (n : Str) (pn : List (Addr × Obj)), n ∈ cn → HotE (X.suite a pn) a n → SDs (X.suite a pn) E0 (b0 :: suite) (ws a n))
    (hgH : Gl X "HangError") (hst : X.stack = X.env :: X.outer := by rfl) (hfr : X.env.frame = some X.env.locals := by rfl) (hN : X.N.Nodup) (hi : X.N[i]? = some nm := by rfl) (hln : X.env.kindOf nm = some .local := by rfl)
    (hdb : (x == ("__debug__" : Str)) = false := by decide) (he : starEach (e :: es) X.env = (false, eval e X.env) :: starEach es X.env := by rfl) (hpl : (backTo pos (starEach es X.env)).any (·.1) = false := by rfl) (hj : X.N[j]? = some y := by rfl) (hy : Loc X.env.scope y := by first | exact Or.inl rfl | exact Or.inr rfl) (hfy : X.fn y = true ∨ X.env.scope.names.lookup y = some .local := by first | exact .inl rfl | exact .inr rfl)
    (hs : swapsWith (.Call (.Name x p) (e :: es) [] pos) (some (.Name y py)) pos1.line X.env = pure false := by rfl) :
    SD X E (.Try [.Assign [.Name y py] (.Call (.Name x p) (e :: es) [] pos) pos1] [.ExceptHandler (some (.Name "HangError" np)) (some nm) (b0 :: suite) pos2] [] [] pos3) (wTry cn i sp wl (fun r ρ => ρ.set j (.fz r.d)) ws) := by
  obtain ⟨HA, m1, m2, m3, m4⟩ := ak _ hH
  refine ⟨_, L2N.ps_try_as (c := .ref HA) (i := i) (ts := canS X.mg cn ws) (tb := fun W => tSeq (tAsg (tCallS (spOf X.mg sp) (L2.WE W) (canA X.mg wl)) (gName j)) tNext) hst hfr hN hi hln ⟨hgH, by decide, .inl m1⟩ takesN (fun W pn xe tk _ => ?_) (fun a oe cls d pn hz hf => ⟨fun pins s σ H D I h => ?_⟩), fun q ρ hw F σ H S D rp o => ?_⟩
  · exact pss_one (ps_set (X := X.tr pn xe) hN hj hy (pe_callS (X := X.tr pn xe) G hr hg hm hk hb (fun σ => L2N.passAt tk σ) (ha pn xe).can hdb he hpl) hs hfy)
  · obtain ⟨n, C, q, ρ, F, S, hn, gC, rfl, rfl, hw, rp, o⟩ := h
    obtain ⟨t, pt, so⟩ := (hsu a n _ hn ⟨(a, oe), C, List.mem_cons_self, rfl, gC, ⟨hz, hf⟩⟩).ex
    exact pt.run pins s σ H D I (so q ρ hw F σ H S D rp o)
  · refine ⟨fun _ => False, ρ, _, F, S, hw, rp, (fun _ _ _ _ z => z.elim), fun ds vs H1 S1 ask g1 h1 => ⟨ds, S1, _, _, ⟨g1.sh, (rp.grow g1).fg.tb⟩, h1, ask, fun r v H2 S2 q2 g2 h2 => ?_, fun n C H2 S2 hx hC g2 => ?_⟩⟩
    · obtain ⟨S3, g3, h3⟩ := h2.dat g2
      exact o.nx _ _ H2 S3 q2 ((rp.grow (g1.trans g3)).set h3)
    · obtain ⟨hn, hx⟩ := hx
      obtain ⟨C', c1, c2, c3, c4, c5⟩ := er n hn
      obtain ⟨D', d1, d2⟩ := c5 _ hH
      rw [m1] at d1
      cases d1
      rw [hC] at c1
      cases c1
      have yes : isSubN n "HangError" = true := by simp [isSubN]
      refine ⟨true, by rw [exm_of m2 m3 m4 d2, yes], fun _ b hb => ?_, fun z => nomatch z⟩
      exact ⟨n, C, q.off i, _, F, S2, hn, hC, rfl, rfl, hx b, (rp.grow (g1.trans g2)).set (d := .ref b) (by unfold Dat; rfl), o.off⟩
end
theorem roomH_mark {k : Nat} {A : Around} {v : Option Value} (r : Room k A) : L2H.RoomH k (A.mark v) := ⟨r.dp, r.un⟩
/-! a truth in a list of truths -/
section
variable [KC] {X : Cx}
omit [KC] in
theorem inV_bl (b : Bool) : ∀ bs : List Bool, (bs.map V.bl).all flatV = true ∧ inV (.bl b) (bs.map V.bl) = decide (b ∈ bs)
  | [] => ⟨rfl, by simp [inV]⟩
  | m :: bs => by
    obtain ⟨h1, h2⟩ := inV_bl b bs
    refine ⟨by rw [List.map_cons, List.all_cons, h1]; rfl, ?_⟩
    unfold inV at h2 ⊢
    rw [List.map_cons, List.any_cons, h2]
    have : eqV (.bl m) (.bl b) = decide (b = m) := by
      show (m == b) = _
      cases m <;> cases b <;> rfl
    rw [this]
    by_cases e : b = m <;> simp [e]
def gInB (neg : Bool) : D → D → (D → Prop) → Prop
  | .bl n, .lst xs, Q => ∃ bs : List Bool, xs = bs.map D.bl ∧ Q (.bl (neg ^^ decide (n ∈ bs)))
  | _, _, _ => False
theorem dNotInB (hK : X.K = KC.K := by rfl) : OpD X (compareOp .NotIn) (gInB true) := by
  refine ⟨_, op_notIn_seq, fun d e Q h H S u v Q' sh hd he k => ?_⟩
  unfold gInB at h
  split at h
  · obtain ⟨bs, rfl, q⟩ := h
    cases hd.b
    obtain ⟨a, ws, rfl, r, z⟩ := he
    have := z.ofBls
    subst this
    obtain ⟨i1, i2⟩ := inV_bl _ bs
    exact ⟨a, _, rfl, .inl (.of r), rfl, i1, by rw [i2]; simpa using k _ _ H S q (.refl sh) .b⟩
  · exact h.elim
end

/-! ### `{}`; l.count(b), l.index(b) of truths; try: y = f(..), the new list owned -/
section
variable [KC] {X : Cx} {E : XK} {e : Expr} {es : List Expr} {wa wb : WE} {wl : WL} {x nm cn' : Str} {k : Nat} {f : Addr} {fd : FuncData} {ps : List Str} {sp : Spec} {b0 : Stmt} {suite : List Stmt} {p np pos pos1 pos2 pos3 apos : Pos} {HE : Addr} {cn an : List Str} {ws : Addr → Str → WS}
def wDct0 : WE := fun _ _ Q => Q (.dct [] [])
theorem ed_dct0 : ED X E (.Dict [] [] pos) wDct0 := by
  refine ⟨_, pe_dnewK, fun x ρ Q hw F σ H S Q' rp ex k => fun a h0 => ?_⟩
  have g : Grow H S H S := .refl rp.fg.sh
  refine k _ _ _ (upd S a (.dK [])) hw ((g.lay h0).share (o := .dK []) h0 (g.freeS h0) upd_same) ?_
  unfold Dat
  refine ⟨a, [], rfl, upd_same, rfl, ?_⟩
  unfold Dats
  rfl
theorem cnt_eqU {y : V} : ∀ {xs : List V} {us : List Value}, Vals xs us → xs.all flatV = true → us.countP (eqU y) = xs.countP fun z => eqV z y
  | _, _, .nil, _ => rfl
  | z :: xs, u :: us, .cons r t, f => by
    rw [List.all_cons, Bool.and_eq_true] at f
    rw [List.countP_cons, List.countP_cons, eqU_of r f.1, cnt_eqU t f.2]
def rCntF (K : PySem.W.Frag) : V → List V → Hp → VK → Prop := fun x xs H Q => ∃ (a : Addr) (ys : List V) (y : V), x = V.ref a ∧ xs = [y] ∧ SqL K H a ys ∧ flatV y = true ∧ ys.all flatV = true ∧ Q (.int (ys.countP (fun z => eqV z y) : Nat)) H
theorem mt_countF : MtR X "list.count" (rCntF X.K) := by
  intro pins s σ H x xs v us Q I rx rxs h
  obtain ⟨a, ys, y, rfl, rfl, hs, fy, fys, q⟩ := h
  cases rx
  cases rxs with
  | cons ry rt =>
    rename_i uy ut
    cases rt
    obtain ⟨its, rv, ⟨⟨cls, dd, data, sl⟩, n, ho, hc, hdn, hd⟩, hlen⟩ := I.list hs
    simp only at hc hd
    subst hc hd
    refine call_meets PySem.F.slot_list_count ⟨_, ho, rfl⟩ PySem.F.entry_list_count (PySem.F.args_list_count_2 _ _)
      (SeqAt.list_countAt a its.toArray n dd sl uy (eqU y)) ⟨ho, fun u' hu' => mem_eqAt ry fy rv fys u' (by simpa using hu'), ?_⟩
    refine ⟨.int (ys.countP (fun z => eqV z y) : Nat), H, I.tok _, ⟨s.toks, ?_⟩, q⟩
    show Value.int ((its.toArray.toList.countP (eqU y) : Nat) : Int) s.toks = _
    rw [show its.toArray.toList = its from rfl, cnt_eqU rv fys]
def wCntB (wa : WE) (wl : WL) : WE := fun x ρ Q => wa x ρ fun d => match d with
  | .lst xs => wl x ρ fun es => match es with
    | [.bl b] => ∃ bs : List Bool, xs = bs.map D.bl ∧ Q (.int (bs.count b : Nat))
    | _ => False
  | _ => False
def wIdxB (wa : WE) (wl : WL) : WE := fun x ρ Q => wa x ρ fun d => match d with
  | .lst xs => wl x ρ fun es => match es with
    | [.bl b] => ∃ (bs : List Bool) (j : Nat), xs = bs.map D.bl ∧ bs[j]? = some b ∧ (∀ m, m < j → bs[m]? ≠ some b) ∧ Q (.int (j : Nat))
    | _ => False
  | _ => False
theorem flat_bl (b : Bool) : flatV (.bl b) = true := rfl
theorem flat_bls (bs : List Bool) : (bs.map V.bl).all flatV = true := by simp [flatV]
theorem dats_bl1 {S : Hp} {b : Bool} {vs : List V} (h : Dats S [.bl b] vs) : vs = [.bl b] := Dats.ofBls (ns := [b]) h
theorem ed_cntB {o : Expr} (ho : ED X E o wa) (ha : AD X E (e :: es) wl)
    (hbase : attributeBase o "count" X.env (eval o X.env) = eval o X.env := by rfl)
    (hfew : ((backTo pos (starEach (e :: es) X.env)).all (fun x => !x.1) && (backToKw pos (keywordEach [] X.env)).all (fun x => x.1.isSome)
      && decide ((e :: es).length + ([] : List Keyword).length + (if ([] : List Keyword).isEmpty then 0 else 1) < 30)) = true := by rfl)
    (hline : (apos.endLine == pos.line) = true := by rfl) (hst : starEach (e :: es) X.env = (false, eval e X.env) :: starEach es X.env := by rfl) (hplain : (backTo pos (starEach es X.env)).any (·.1) = false := by rfl) :
    ED X E (.Call (.Attribute o "count" apos) (e :: es) [] pos) (wCntB wa wl) := by
  obtain ⟨t1, p1, s1⟩ := ho.ex
  obtain ⟨t2, p2, s2⟩ := ha.ex
  refine ⟨_, pe_bm PySem.F.plainAttrs_list PySem.F.slot_list_count PySem.F.type_list_count mt_countF p1 p2 hbase hfew hline hst hplain, fun x ρ Q hw F σ H S Q' rp ex k => ?_⟩
  refine s1 x ρ _ hw F σ H S _ rp ex fun d u H1 S1 q1 g1 h1 => ?_
  cases d with
  | lst xs =>
    obtain ⟨a, vs, rfl, r, z⟩ := h1
    refine ⟨.inl ⟨rfl, _, .of (g1.sh _ _ r)⟩, ?_⟩
    refine s2 x ρ _ q1 F σ H1 S1 _ (rp.grow g1) (ex.grow g1) fun es us H2 S2 q2 g2 h2 => ?_
    match es, q2, h2 with
    | [.bl b], q2, h2 =>
      obtain rfl := dats_bl1 h2
      obtain ⟨bs, rfl, q⟩ := q2
      obtain rfl := z.ofBls
      refine ⟨a, _, _, rfl, rfl, .of (g2.hh.lst (g1.sh _ _ r)), flat_bl b, flat_bls bs, ?_⟩
      have : (bs.map V.bl).countP (fun z => eqV z (.bl b)) = bs.count b := by
        rw [List.countP_map, List.count]
        rfl
      rw [this]
      exact k _ _ H2 S2 q (g1.trans g2) .i
  | _ => exact q1.elim
theorem ed_idxB {o : Expr} (ho : ED X E o wa) (ha : AD X E (e :: es) wl)
    (hbase : attributeBase o "index" X.env (eval o X.env) = eval o X.env := by rfl)
    (hfew : ((backTo pos (starEach (e :: es) X.env)).all (fun x => !x.1) && (backToKw pos (keywordEach [] X.env)).all (fun x => x.1.isSome)
      && decide ((e :: es).length + ([] : List Keyword).length + (if ([] : List Keyword).isEmpty then 0 else 1) < 30)) = true := by rfl)
    (hline : (apos.endLine == pos.line) = true := by rfl) (hst : starEach (e :: es) X.env = (false, eval e X.env) :: starEach es X.env := by rfl) (hplain : (backTo pos (starEach es X.env)).any (·.1) = false := by rfl) :
    ED X E (.Call (.Attribute o "index" apos) (e :: es) [] pos) (wIdxB wa wl) := by
  obtain ⟨t1, p1, s1⟩ := ho.ex
  obtain ⟨t2, p2, s2⟩ := ha.ex
  refine ⟨_, pe_bm PySem.F.plainAttrs_list PySem.F.slot_list_index PySem.F.type_list_index mt_index p1 p2 hbase hfew hline hst hplain, fun x ρ Q hw F σ H S Q' rp ex k => ?_⟩
  refine s1 x ρ _ hw F σ H S _ rp ex fun d u H1 S1 q1 g1 h1 => ?_
  cases d with
  | lst xs =>
    obtain ⟨a, vs, rfl, r, z⟩ := h1
    refine ⟨.inl ⟨rfl, _, .of (g1.sh _ _ r)⟩, ?_⟩
    refine s2 x ρ _ q1 F σ H1 S1 _ (rp.grow g1) (ex.grow g1) fun es us H2 S2 q2 g2 h2 => ?_
    match es, q2, h2 with
    | [.bl b], q2, h2 =>
      obtain rfl := dats_bl1 h2
      obtain ⟨bs, j, rfl, hj, hno, q⟩ := q2
      obtain rfl := z.ofBls
      refine ⟨a, _, _, j, .bl b, rfl, rfl, .of (g2.hh.lst (g1.sh _ _ r)), flat_bl b, flat_bls bs, by rw [List.getElem?_map, hj]; rfl, by show (b == b) = true; simp, fun m z' hm hz => ?_, k _ _ H2 S2 q (g1.trans g2) .i⟩
      rw [List.getElem?_map] at hz
      cases hb : bs[m]? with
      | none => rw [hb] at hz; cases hz
      | some b' =>
        rw [hb] at hz
        cases hz
        show (b' == b) = false
        refine beq_eq_false_iff_ne.mpr fun e => hno m hm (by rw [hb, e])
  | _ => exact q1.elim
/-- try: y = f(..), what comes is new and owned -/
def wTryF (cn : List Str) (i j : Nat) (sp : Spec) (wl : WL) (ws : Addr → Str → WS) : WS := fun q ρ => wl (fun _ => False) ρ fun ds => Ask sp ds (fun n => n ∈ cn ∧ ∀ a, ws a n (q.off i) (ρ.set i (.fz (.ref a)))) (onNew fun xs => q.nx (ρ.set j (.own false (.lst xs)))) ⟨⟩
theorem sd_tryF (i j : Nat) {y : Str} {py : Pos} (G : FnOk X.prog X.w X.K X.mg X.base (L2N.CX X.prog X.w) k f fd ps (spOf X.mg sp)) (hr : Room k X.A) (hg : Gl X x) (hm : X.mg x = some (.ref f)) (hk : PySem.W.keepIn X.K (.ref f) = true) (hb : Binds X.K fd ps [])
    (ha : ∀ (pn : List (Addr × Obj)) (xe : Value → Shared → Prop), AD (X.tr pn xe) E0 (e :: es) wl) (er : ErrT X.K X.mg cn an) (ak : AskT X.K X.mg an) (hH : ("HangError" : Str) ∈ an)
    (hsu : ∀ (a : Addr) (n : Str) (pn : List (Addr × Obj)), n ∈ cn → HotE (X.suite a pn) a n → SDs (X.suite a pn) E0 (b0 :: suite) (ws a n))
    (hgH : Gl X "HangError") (hst : X.stack = X.env :: X.outer := by rfl) (hfr : X.env.frame = some X.env.locals := by rfl) (hN : X.N.Nodup) (hi : X.N[i]? = some nm := by rfl) (hln : X.env.kindOf nm = some .local := by rfl)
    (hdb : (x == ("__debug__" : Str)) = false := by decide) (he : starEach (e :: es) X.env = (false, eval e X.env) :: starEach es X.env := by rfl) (hpl : (backTo pos (starEach es X.env)).any (·.1) = false := by rfl) (hj : X.N[j]? = some y := by rfl) (hy : Loc X.env.scope y := by first | exact Or.inl rfl | exact Or.inr rfl) (hfy : X.fn y = true ∨ X.env.scope.names.lookup y = some .local := by first | exact .inl rfl | exact .inr rfl)
    (hs : swapsWith (.Call (.Name x p) (e :: es) [] pos) (some (.Name y py)) pos1.line X.env = pure false := by rfl) :
    SD X E (.Try [.Assign [.Name y py] (.Call (.Name x p) (e :: es) [] pos) pos1] [.ExceptHandler (some (.Name "HangError" np)) (some nm) (b0 :: suite) pos2] [] [] pos3) (wTryF cn i j sp wl ws) := by
  obtain ⟨HA, m1, m2, m3, m4⟩ := ak _ hH
  refine ⟨_, L2N.ps_try_as (c := .ref HA) (i := i) (ts := canS X.mg cn ws) (tb := fun W => tSeq (tAsg (tCallS (spOf X.mg sp) (L2.WE W) (canA X.mg wl)) (gName j)) tNext) hst hfr hN hi hln ⟨hgH, by decide, .inl m1⟩ takesN (fun W pn xe tk _ => ?_) (fun a oe cls d pn hz hf => ⟨fun pins s σ H D I h => ?_⟩), fun q ρ hw F σ H S D rp o => ?_⟩
  · exact pss_one (ps_set (X := X.tr pn xe) hN hj hy (pe_callS (X := X.tr pn xe) G hr hg hm hk hb (fun σ => L2N.passAt tk σ) (ha pn xe).can hdb he hpl) hs hfy)
  · obtain ⟨n, C, q, ρ, F, S, hn, gC, rfl, rfl, hw, rp, o⟩ := h
    obtain ⟨t, pt, so⟩ := (hsu a n _ hn ⟨(a, oe), C, List.mem_cons_self, rfl, gC, ⟨hz, hf⟩⟩).ex
    exact pt.run pins s σ H D I (so q ρ hw F σ H S D rp o)
  · refine ⟨fun _ => False, ρ, _, F, S, hw, rp, (fun _ _ _ _ z => z.elim), fun ds vs H1 S1 ask g1 h1 => ⟨ds, S1, _, _, ⟨g1.sh, (rp.grow g1).fg.tb⟩, h1, ask, fun r v H2 S2 q2 g2 h2 => ?_, fun n C H2 S2 hx hC g2 => ?_⟩⟩
    · cases r with
      | val d => exact q2.elim
      | newT d => exact q2.elim
      | new c =>
        cases c with
        | dct _ _ => exact q2.elim
        | obj _ _ _ => exact q2.elim
        | lst xs =>
          obtain ⟨p, o', rfl, z0, z1, z2, us, rfl, z3⟩ := h2
          have g := g1.trans g2
          exact o.nx _ _ H2 S2 q2 ((rp.grow g).setOwn z1 z2 ⟨us, rfl, z3⟩ (fg_free rp.fg (g1.freeH z0)) (own_ne rp (g1.freeH z0)))
    · obtain ⟨hn, hx⟩ := hx
      obtain ⟨C', c1, c2, c3, c4, c5⟩ := er n hn
      obtain ⟨D', d1, d2⟩ := c5 _ hH
      rw [m1] at d1
      cases d1
      rw [hC] at c1
      cases c1
      have yes : isSubN n "HangError" = true := by simp [isSubN]
      refine ⟨true, by rw [exm_of m2 m3 m4 d2, yes], fun _ b hb => ?_, fun z => nomatch z⟩
      exact ⟨n, C, q.off i, _, F, S2, hn, hC, rfl, rfl, hx b, (rp.grow (g1.trans g2)).set (d := .ref b) (by unfold Dat; rfl), o.off⟩
end
section
variable [KC] {X : Cx}
theorem dEqH {k : Nat} (hr : L2H.RoomH k X.A) : OpD X (compareOp .Eq) (gEq false) := by
  refine ⟨_, op_eq.or (op_eqD (show X.A.units + 64 < cLine by have := hr.un; omega)), fun d e Q h H S u v Q' sh hd he k => ?_⟩
  unfold gEq at h
  split at h
  · cases hd.b
    cases he.b
    exact .inl ⟨rfl, by rw [dec_bl']; simpa using k _ _ H S h (.refl sh) .b⟩
  · cases hd.i
    cases he.i
    exact .inl ⟨rfl, by simpa using k _ _ H S h (.refl sh) .b⟩
  · cases hd.s
    cases he.s
    exact .inl ⟨rfl, by simpa using k _ _ H S h (.refl sh) .b⟩
  · obtain ⟨⟨n1, n2⟩, h⟩ := h
    refine .inr ⟨_, _, nb_dp 20 _ u n1 (hd.full sh), nb_dp 20 _ v n2 (he.full sh), nb_shaped n1, nb_shaped n2, ?_⟩
    rw [eqv_deq n1 n2]
    simpa using k _ _ H S h (.refl sh) .b
theorem dNeH {k : Nat} (hr : L2H.RoomH k X.A) : OpD X (compareOp .NotEq) (gEq true) := by
  refine ⟨_, op_ne.or (op_neD (show X.A.units + 64 < cLine by have := hr.un; omega)), fun d e Q h H S u v Q' sh hd he k => ?_⟩
  unfold gEq at h
  split at h
  · cases hd.b
    cases he.b
    exact .inl ⟨rfl, by rw [dec_bl']; simpa using k _ _ H S h (.refl sh) .b⟩
  · cases hd.i
    cases he.i
    exact .inl ⟨rfl, by simpa using k _ _ H S h (.refl sh) .b⟩
  · cases hd.s
    cases he.s
    exact .inl ⟨rfl, by simpa using k _ _ H S h (.refl sh) .b⟩
  · obtain ⟨⟨n1, n2⟩, h⟩ := h
    refine .inr ⟨_, _, nb_dp 20 _ u n1 (hd.full sh), nb_dp 20 _ v n2 (he.full sh), nb_shaped n1, nb_shaped n2, ?_⟩
    rw [eqv_deq n1 n2]
    simpa using k _ _ H S h (.refl sh) .b
end
end NL

/-! l.insert(i, x); tuple(l); {k: v}; == of a thing with its like, truths in it. -/
namespace NL
open PySem PySem.Spec L2
open PyProof.Rows hiding St
section
variable [KC] {X : Cx}
def gIns : List D → List D → (List D → Prop) → Prop
  | xs, [.int i, d], Q => xs.length < sizeLine ∧ 0 ≤ i ∧ i < 2 ^ 63 ∧ Q (xs.take i.toNat ++ [d] ++ xs.drop i.toNat)
  | _, _, _ => False
theorem mIns : MutD X "list.insert" gIns := by
  refine ⟨_, mt_insert, fun xs ds Q h H S l us vs Q' sh hl hu hd k => ?_⟩
  unfold gIns at h
  split at h
  · unfold Dats Dats Dats at hd
    obtain ⟨u, _, rfl, hu1, v, _, rfl, hv, rfl⟩ := hd
    unfold Dat at hu1
    subst hu1
    obtain ⟨h1, h2, h3, q⟩ := h
    exact ⟨l, us, _, v, rfl, rfl, hl, by rw [hu.len]; exact h1, h2, h3, k _ _ _ q (((hu.take _).app (.one hv)).app (hu.drop _))⟩
  · exact h.elim
def gTup : List D → (D → Prop) → Prop
  | [.lst xs], Q => Q (.tup xs)
  | _, _ => False
theorem cTup : CalD X (.type "tuple") gTup := by
  refine ⟨_, call_tuple_of, fun ds Q h H S vs Q' sh hd k => ?_⟩
  unfold gTup at h
  split at h
  · obtain ⟨v, rfl, hz⟩ := hd.one
    obtain ⟨a, ws, rfl, r, z⟩ := hz
    refine ⟨a, ws, rfl, .inl ⟨.of r, fun l hl => ?_⟩⟩
    obtain ⟨g, y⟩ := lay_tup sh hl z
    exact k _ _ _ _ h g y
  · exact h.elim
/-- data with truths in it, at most so deep -/
def nbr : Nat → D → Bool
  | 0, _ => false
  | _ + 1, .non => true
  | _ + 1, .bl _ => true
  | _ + 1, .int _ => true
  | _ + 1, .str s => PyData.strOk s
  | n + 1, .lst xs => xs.all (nbr n)
  | n + 1, .tup xs => xs.all (nbr n)
  | _ + 1, _ => false
def toPyr : Nat → D → PyData
  | 0, _ => .none
  | _ + 1, .non => .none
  | _ + 1, .bl b => .bool b
  | _ + 1, .int i => .int i
  | _ + 1, .str s => .str s
  | n + 1, .lst xs => .list (xs.map (toPyr n))
  | n + 1, .tup xs => .tuple (xs.map (toPyr n))
  | _ + 1, _ => .none
theorem nbr_dp {H : Hp} {K : PySem.W.Frag} : ∀ (n : Nat) (d : D) (v : V), nbr n d = true → Dat H d v → Dp K H v (toPyr n d)
  | 0, _, _, h, _ => by simp [nbr] at h
  | n + 1, .non, v, _, q => by unfold Dat at q; subst q; exact .non
  | n + 1, .int i, v, _, q => by unfold Dat at q; subst q; exact .int i
  | n + 1, .str i, v, _, q => by unfold Dat at q; subst q; exact .str i
  | n + 1, .bl b, v, _, q => by unfold Dat at q; subst q; exact .bl b
  | n + 1, .dct _ _, v, h, _ => by simp [nbr] at h
  | n + 1, .dkz _ _, v, h, _ => by simp [nbr] at h
  | n + 1, .obj _ _ _, v, h, _ => by simp [nbr] at h
  | n + 1, .ref _, v, h, _ => by simp [nbr] at h
  | n + 1, .scr _, v, h, _ => by simp [nbr] at h
  | n + 1, .lst xs, v, h, q => by
    unfold Dat at q
    obtain ⟨a, vs, rfl, r, q⟩ := q
    have h' : ∀ x ∈ xs, nbr n x = true := by simpa [nbr] using h
    refine .lst (.of r) ?_
    clear r h
    induction xs generalizing vs with
    | nil => unfold Dats at q; subst q; exact .nil
    | cons x xs ih =>
      unfold Dats at q
      obtain ⟨v, r, rfl, q1, q2⟩ := q
      exact .cons (nbr_dp n x v (h' x (by simp)) q1) (ih r q2 fun y hy => h' y (by simp [hy]))
  | n + 1, .tup xs, v, h, q => by
    unfold Dat at q
    obtain ⟨a, vs, rfl, r, q⟩ := q
    have h' : ∀ x ∈ xs, nbr n x = true := by simpa [nbr] using h
    refine .tup (.of r) ?_
    clear r h
    induction xs generalizing vs with
    | nil => unfold Dats at q; subst q; exact .nil
    | cons x xs ih =>
      unfold Dats at q
      obtain ⟨v, r, rfl, q1, q2⟩ := q
      exact .cons (nbr_dp n x v (h' x (by simp)) q1) (ih r q2 fun y hy => h' y (by simp [hy]))
omit [KC] in
theorem nbr_shape : ∀ (n : Nat) (d : D), nbr n d = true → (toPyr n d).canLay0 = true ∧ (toPyr n d).depth ≤ n
  | 0, _, h => by simp [nbr] at h
  | n + 1, .non, _ => by simp [toPyr, PyData.canLay0, PyData.depth]
  | n + 1, .int i, _ => by simp [toPyr, PyData.canLay0, PyData.depth]
  | n + 1, .bl i, _ => by simp [toPyr, PyData.canLay0, PyData.depth]
  | n + 1, .str i, h => by simpa [toPyr, PyData.canLay0, PyData.depth, nbr] using h
  | n + 1, .dct _ _, h => by simp [nbr] at h
  | n + 1, .dkz _ _, h => by simp [nbr] at h
  | n + 1, .obj _ _ _, h => by simp [nbr] at h
  | n + 1, .ref _, h => by simp [nbr] at h
  | n + 1, .scr _, h => by simp [nbr] at h
  | n + 1, .lst xs, h => by
    have h' : ∀ x ∈ xs, nbr n x = true := by simpa [nbr] using h
    have key : PyData.canLayAll0 (xs.map (toPyr n)) = true ∧ PyData.depthAll (xs.map (toPyr n)) ≤ n := by
      clear h
      induction xs with
      | nil => simp [PyData.canLayAll0, PyData.depthAll]
      | cons x xs ih =>
        obtain ⟨i1, i2⟩ := ih fun y hy => h' y (by simp [hy])
        obtain ⟨j1, j2⟩ := nbr_shape n x (h' x (by simp))
        simp only [List.map_cons, PyData.canLayAll0, PyData.depthAll, i1, j1, Bool.and_self, true_and]
        omega
    simp only [toPyr, PyData.canLay0, PyData.depth, key.1, true_and]
    omega
  | n + 1, .tup xs, h => by
    have h' : ∀ x ∈ xs, nbr n x = true := by simpa [nbr] using h
    have key : PyData.canLayAll0 (xs.map (toPyr n)) = true ∧ PyData.depthAll (xs.map (toPyr n)) ≤ n := by
      clear h
      induction xs with
      | nil => simp [PyData.canLayAll0, PyData.depthAll]
      | cons x xs ih =>
        obtain ⟨i1, i2⟩ := ih fun y hy => h' y (by simp [hy])
        obtain ⟨j1, j2⟩ := nbr_shape n x (h' x (by simp))
        simp only [List.map_cons, PyData.canLayAll0, PyData.depthAll, i1, j1, Bool.and_self, true_and]
        omega
    simp only [toPyr, PyData.canLay0, PyData.depth, key.1, true_and]
    omega
omit [KC] in
theorem nbr_shaped {d : D} (h : nbr 20 d = true) : SeqAt.shaped (toPyr 20 d) = true := by
  obtain ⟨h1, h2⟩ := nbr_shape 20 d h
  unfold SeqAt.shaped
  rw [h1, decide_eq_true (by omega)]
  rfl
/-- a thing and its like -/
def gEqR : D → D → (D → Prop) → Prop := fun d e Q => d = e ∧ nbr 20 d = true ∧ Q (.bl true)
theorem dEqR {k : Nat} (hr : Room k X.A) : OpD X (compareOp .Eq) gEqR := by
  refine ⟨_, op_eqD hr.units, fun d e Q h H S u v Q' sh hd he k => ?_⟩
  obtain ⟨rfl, n1, h⟩ := h
  refine ⟨_, _, nbr_dp 20 _ u n1 (hd.full sh), nbr_dp 20 _ v n1 (he.full sh), nbr_shaped n1, nbr_shaped n1, ?_⟩
  rw [SeqAt.eqv_refl _ (nbr_shape 20 d n1).1]
  simpa using k _ _ H S h (.refl sh) .b
end
section
variable [KC] {X : Cx} {E : XK} {ek ev : Expr} {wk wv : WE} {pos : Pos}
/-- {k: v}, k a text -/
def wDct1 (wk wv : WE) : WE := fun x ρ Q => wk x ρ fun d => wv x ρ fun e => match d with
  | .str s => Q (.dct [.inr s] [e])
  | _ => False
theorem ed_dct1 (hk : ED X E ek wk) (hv : ED X E ev wv) : ED X E (.Dict [some ek] [ev] pos) (wDct1 wk wv) := by
  obtain ⟨tk, pk, sk⟩ := hk.ex
  obtain ⟨tv, pv, sv⟩ := hv.ex
  refine ⟨_, pe_disp (pps_cons pk pv pps_nil) rfl rfl (by simp) (by simp), fun x ρ Q hw F σ H S Q' rp ex k => fun a h0 => ?_⟩
  have g0 : Grow H S H S := .refl rp.fg.sh
  have ga : Grow H S (upd H a (.dK [])) S := g0.lay h0
  refine sk x ρ _ hw F σ _ S _ (rp.grow ga) (ex.grow ga) fun d u H1 S1 q1 g1 h1 => ?_
  refine sv x ρ _ q1 F σ H1 S1 _ (rp.grow (ga.trans g1)) (ex.grow (ga.trans g1)) fun e v H2 S2 q2 g2 h2 => ?_
  have gg := ga.trans (g1.trans g2)
  have hH : H2 a = some (.dK []) := (g1.trans g2).hh.dK upd_same
  cases d with
  | str s =>
    unfold Dat at h1
    subst h1
    refine ⟨hH, [(.inr s, v)], rfl, by simp, ?_⟩
    have hS : S2 a = none := by
      rw [(g1.trans g2).nw a (by rw [upd_same]; intro z; cases z)]
      exact g0.freeS h0
    have hm : mergeK [] [((.inr s : Key), v)] = [(.inr s, v)] := rfl
    rw [hm]
    refine k (.dct [.inr s] [e]) _ _ (upd S2 a (.dK [(.inr s, v)])) q2 ⟨gg.hh.over h0 hH (fun _ z => by cases z) (fun _ z => by cases z), gg.ss.trans (same_upd hS), fun b o e => ?_, fun b hb => ?_⟩ ?_
    · by_cases z : b = a
      · subst z
        rw [upd_same] at e ⊢
        exact e
      · rw [upd_ne z] at e ⊢
        exact gg.sh b o e
    · have ne : b ≠ a := fun z => by subst z; exact hb h0
      rw [upd_ne ne]
      exact gg.nw b hb
    · unfold Dat
      exact ⟨a, [(.inr s, v)], rfl, upd_same, rfl, Dats.one (Dat.mono (same_upd hS) _ _ h2)⟩
  | _ => exact q2.elim
omit [KC] in
theorem loop_id {S : Type} {g : WG} {wb : WS} {q : DEnds} (env : S → Ev) (P : List D → S → Prop) (hnil : ∀ s, P [] s → q.nx (env s))
    (hstep : ∀ a r s (L : Ev → Prop), P (a :: r) s → (∀ s', P r s' → L (env s')) → g a (env s) fun ρ1 => wb ⟨L, q.rt, q.nx, L, q.ex⟩ ρ1) (xs : List D) (s0 : S) (h : P xs s0) : loopL g wb q xs (env s0) := by
  have := loop_ind id env P hnil hstep xs s0 h
  rwa [List.map_id] at this
end
end NL

/-! Objects of own classes: attributes, methods, making. -/
namespace NL
open PySem PySem.Spec L2
open PyProof.Rows hiding St
variable [KC]

/-! ### the content of an object by names -/
def putN (f : Str) : List Str → List Str
  | [] => [f]
  | g :: r => if g = f then g :: r else g :: putN f r
theorem names_put (f : Str) (y : V) : ∀ kvs : List (Str × V), (putF f y kvs).map (·.1) = putN f (kvs.map (·.1))
  | [] => rfl
  | (g, v) :: r => by
    simp only [putF, putN, List.map_cons]
    by_cases h : g = f
    · rw [if_pos h, if_pos h]
      simp [h]
    · rw [if_neg h, if_neg h, List.map_cons, names_put f y r]
omit [KC] in
theorem putN_new {f : Str} : ∀ {fs : List Str}, f ∉ fs → putN f fs = fs ++ [f]
  | [], _ => rfl
  | g :: r, h => by
    simp only [List.mem_cons, not_or] at h
    show (if g = f then _ else _) = _
    rw [if_neg (fun z => h.1 z.symm), putN_new h.2]
    rfl
omit [KC] in
theorem putN_old {f : Str} : ∀ {fs : List Str}, f ∈ fs → putN f fs = fs
  | [], h => by cases h
  | g :: r, h => by
    show (if g = f then _ else _) = _
    by_cases z : g = f
    · rw [if_pos z]
    · rw [if_neg z, putN_old ((List.mem_cons.mp h).resolve_left fun y => z y.symm)]
theorem vals_new {S : Hp} {f : Str} {y : V} {d : D} (hy : Dat S d y) : ∀ {kvs : List (Str × V)} {xs : List D}, f ∉ kvs.map (·.1) → Dats S xs (kvs.map (·.2)) → Dats S (xs ++ [d]) ((putF f y kvs).map (·.2))
  | [], xs, _, h => by
    have := h.len
    cases xs with
    | nil => exact .one hy
    | cons _ _ => cases this
  | (g, v) :: r, xs, n, h => by
    cases xs with
    | nil => have := h.len; cases this
    | cons x xs =>
      simp only [List.map_cons, List.mem_cons, not_or] at n
      unfold Dats at h
      obtain ⟨v', r', e, h1, h2⟩ := h
      cases e
      show Dats S (x :: (xs ++ [d])) (List.map _ (if g = f then _ else _))
      rw [if_neg (fun z => n.1 z.symm)]
      exact .cons h1 (vals_new hy n.2 h2)
theorem vals_old {S : Hp} {f : Str} {y : V} {d : D} (hy : Dat S d y) : ∀ {kvs : List (Str × V)} {xs : List D} {k : Nat}, (kvs.map (·.1))[k]? = some f → (kvs.map (·.1)).Nodup → Dats S xs (kvs.map (·.2)) → Dats S (xs.set k d) ((putF f y kvs).map (·.2))
  | [], xs, k, e, _, h => by cases e
  | (g, v) :: r, xs, k, e, n, h => by
    cases xs with
    | nil => have := h.len; cases this
    | cons x xs =>
      unfold Dats at h
      obtain ⟨v', r', e', h1, h2⟩ := h
      cases e'
      simp only [List.map_cons, List.nodup_cons] at n
      cases k with
      | zero =>
        have z : g = f := by simpa using e
        show Dats S (d :: xs) (List.map _ (if g = f then _ else _))
        rw [if_pos z]
        exact .cons hy h2
      | succ k =>
        have e2 : (r.map (·.1))[k]? = some f := by simpa using e
        have z : g ≠ f := fun z => n.1 (by rw [z]; exact List.mem_of_getElem? e2)
        show Dats S (x :: xs.set k d) (List.map _ (if g = f then _ else _))
        rw [if_neg z]
        exact .cons h1 (vals_old hy e2 n.2 h2)
theorem look_at {S : Hp} {f : Str} : ∀ {kvs : List (Str × V)} {xs : List D} {k : Nat} {d : D}, (kvs.map (·.1))[k]? = some f → (kvs.map (·.1)).Nodup → Dats S xs (kvs.map (·.2)) → xs[k]? = some d → ∃ v, kvs.lookup f = some v ∧ Dat S d v
  | [], xs, k, d, e, _, _, _ => by cases e
  | (g, v) :: r, xs, k, d, e, n, h, q => by
    cases xs with
    | nil => have := h.len; cases this
    | cons x xs =>
      unfold Dats at h
      obtain ⟨v', r', e', h1, h2⟩ := h
      cases e'
      simp only [List.map_cons, List.nodup_cons] at n
      cases k with
      | zero =>
        have z : g = f := by simpa using e
        have y : x = d := by simpa using q
        subst z y
        exact ⟨v, by simp [List.lookup], h1⟩
      | succ k =>
        have e2 : (r.map (·.1))[k]? = some f := by simpa using e
        have z : g ≠ f := fun z => n.1 (by rw [z]; exact List.mem_of_getElem? e2)
        obtain ⟨u, hu, du⟩ := look_at e2 n.2 h2 (by simpa using q)
        refine ⟨u, ?_, du⟩
        have : (f == g) = false := beq_eq_false_iff_ne.mpr fun y => z y.symm
        simp only [List.lookup, this]
        exact hu
omit [KC] in
theorem look_no {f : Str} : ∀ {kvs : List (Str × V)}, f ∉ kvs.map (·.1) → kvs.lookup f = none
  | [], _ => rfl
  | (g, v) :: r, n => by
    simp only [List.map_cons, List.mem_cons, not_or] at n
    have : (f == g) = false := beq_eq_false_iff_ne.mpr n.1
    simp only [List.lookup, this]
    exact look_no n.2
/-- it is an object of this class with these attributes -/
def isO (c : Str) (fs : List Str) (c' : Str) (fs' : List Str) : Prop := c' = c ∧ fs' = fs
omit [KC] in
theorem isO_rfl {c : Str} {fs : List Str} : isO c fs c fs = True := eq_true ⟨rfl, rfl⟩

section
variable {X : Cx} {E : XK} {e o : Expr} {es : List Expr} {pos apos mpos p p1 : Pos} {w wa : WE} {wl : WL} {c m f x y : Str} {fs : List Str} {i k : Nat}
/-- e.f, the attribute at k of an object of the class c -/
def wFld (c : Str) (fs : List Str) (k : Nat) (wa : WE) : WE := fun x ρ Q => wa x ρ fun d => match d with
  | .obj c' fs' xs => isO c fs c' fs' ∧ match xs[k]? with
    | some d => Q d
    | none => False
  | _ => False
theorem ed_fld (c : Str) (fs : List Str) (k : Nat) (cl : Cls X.K (KC.ca c)) (na : NoAttr X.K (KC.ca c) f) (ha : BD X E e wa) (hk : fs[k]? = some f := by rfl) (hn : fs.Nodup := by decide +kernel) (hb : attributeBase e f X.env (eval e X.env) = eval e X.env := by rfl) :
    ED X E (.Attribute e f pos) (wFld c fs k wa) := by
  obtain ⟨t, pt, s⟩ := ha.ex
  refine ⟨_, pe_fld pt hb, fun x ρ Q hw F σ H S Q' rp ex k => ?_⟩
  refine s x ρ _ hw F σ H S _ rp ex fun d u H1 S1 q1 g1 h1 => ?_
  split at q1
  · obtain ⟨⟨rfl, rfl⟩, q1⟩ := q1
    split at q1
    · rename_i d hd
      obtain ⟨a, dx, kvs, rfl, r, e1, z⟩ := h1
      obtain ⟨v, hv, dv⟩ := look_at (f := f) (by rw [e1]; exact hk) (by rw [e1]; exact hn) z hd
      exact ⟨a, _, dx, kvs, v, rfl, r, cl, na, hv, k d v H1 S1 q1 g1 dv⟩
    · exact q1.elim
  · exact q1.elim
/-- self.f = e, an attribute that stands -/
def wsSetFld (i : Nat) (c : Str) (fs : List Str) (k : Nat) (w : WE) : WS := fun q ρ => w q.ex ρ fun d => match ρ[i]? with
  | some (.own m (.obj c' fs' xs)) => isO c fs c' fs' ∧ q.nx (ρ.set i (.own m (.obj c fs (xs.set k d))))
  | _ => False
theorem sd_setFld (i : Nat) (c : Str) (fs : List Str) (k : Nat) (cl : Cls X.K (KC.ca c)) (na : NoAttr X.K (KC.ca c) f) (he : ED X E e w) (hk : fs[k]? = some f := by rfl) (hn : fs.Nodup := by decide +kernel) (hlen : fs.length < 1000 := by decide)
    (hN : X.N[i]? = some y := by rfl) (hv : Vis X.env.scope y := by first | exact Or.inl rfl | exact Or.inr (Or.inl rfl) | exact Or.inr (Or.inr rfl)) (hd : (y == ("__debug__" : Str)) = false := by decide) (hcd : (y == ("__classdict__" : Str)) = false := by decide)
    (hs : swapsWith e (some (.Attribute (.Name y p) f apos)) pos.line X.env = pure false := by rfl) : SD X E (.Assign [.Attribute (.Name y p) f apos] e pos) (wsSetFld i c fs k w) := by
  obtain ⟨t, pe, s⟩ := he.ex
  refine ⟨_, ps_fld (pe_var hN hv hd hcd) pe hs, fun q ρ hw F σ H S D rp o => ?_⟩
  refine s q.ex ρ _ hw F σ H S _ rp (o.exOk rp) fun d v H1 S1 q1 g1 h1 => ?_
  split at q1
  · rename_i m c' fs' xs hi
    obtain ⟨⟨rfl, rfl⟩, q1⟩ := q1
    have rp1 := rp.grow g1
    obtain ⟨l, u, e1, z1, z2, ⟨dx, kvs, rfl, e2, z3⟩, _⟩ := rp1.own hi
    refine ⟨_, e1, l, _, dx, kvs, rfl, z2, cl, na, by rw [← List.length_map (f := (·.1)), e2]; exact hlen, o.nx _ _ _ S1 q1 (rp1.put hi e1 ⟨dx, _, rfl, ?_, vals_old h1 (by rw [e2]; exact hk) (by rw [e2]; exact hn) z3⟩)⟩
    rw [names_put, putN_old (by rw [e2]; exact List.mem_of_getElem? hk), e2]
  · exact q1.elim
/-- self.f = e, a new attribute -/
def wsAddFld (i : Nat) (c : Str) (fs : List Str) (f : Str) (w : WE) : WS := fun q ρ => w q.ex ρ fun d => match ρ[i]? with
  | some (.own m (.obj c' fs' xs)) => isO c fs c' fs' ∧ q.nx (ρ.set i (.own m (.obj c (fs ++ [f]) (xs ++ [d]))))
  | _ => False
theorem sd_addFld (i : Nat) (c : Str) (fs : List Str) (f : Str) (cl : Cls X.K (KC.ca c)) (na : NoAttr X.K (KC.ca c) f) (he : ED X E e w) (hn : f ∉ fs := by decide +kernel) (hlen : fs.length < 1000 := by decide)
    (hN : X.N[i]? = some y := by rfl) (hv : Vis X.env.scope y := by first | exact Or.inl rfl | exact Or.inr (Or.inl rfl) | exact Or.inr (Or.inr rfl)) (hd : (y == ("__debug__" : Str)) = false := by decide) (hcd : (y == ("__classdict__" : Str)) = false := by decide)
    (hs : swapsWith e (some (.Attribute (.Name y p) f apos)) pos.line X.env = pure false := by rfl) : SD X E (.Assign [.Attribute (.Name y p) f apos] e pos) (wsAddFld i c fs f w) := by
  obtain ⟨t, pe, s⟩ := he.ex
  refine ⟨_, ps_fld (pe_var hN hv hd hcd) pe hs, fun q ρ hw F σ H S D rp o => ?_⟩
  refine s q.ex ρ _ hw F σ H S _ rp (o.exOk rp) fun d v H1 S1 q1 g1 h1 => ?_
  split at q1
  · rename_i m c' fs' xs hi
    obtain ⟨⟨rfl, rfl⟩, q1⟩ := q1
    have rp1 := rp.grow g1
    obtain ⟨l, u, e1, z1, z2, ⟨dx, kvs, rfl, e2, z3⟩, _⟩ := rp1.own hi
    have hn' : f ∉ kvs.map (·.1) := by rw [e2]; exact hn
    refine ⟨_, e1, l, _, dx, kvs, rfl, z2, cl, na, by rw [← List.length_map (f := (·.1)), e2]; exact hlen, o.nx _ _ _ S1 q1 (rp1.put hi e1 ⟨dx, _, rfl, ?_, vals_new h1 hn' z3⟩)⟩
    rw [names_put, putN_new hn', e2]
  · exact q1.elim

/-! ### methods, the class told by the object -/
structure MC (X : Cx) (m : Str) (C : Addr) (sp : Sp) : Prop where
  ex : ∃ k f fd ps, Cls X.K C ∧ Meth X.K C m f ∧ FnOk X.prog X.w X.K X.mg X.base (L2N.CX X.prog X.w) k f fd ps sp ∧ Room k X.A ∧ Binds X.K fd ps []
def tMethV (m : Str) (ok : Addr → Sp → Prop) (E : XK) (ta : TE) (t : TA) : TE := fun σ H Q => ta σ H fun x H1 => ∃ a C dx kvs sp, x = .ref a ∧ H1 a = some (.ins C dx kvs) ∧ kvs.lookup m = none ∧ ok C sp ∧
  t σ H1 fun vs H2 => sp (x :: vs) H2 Q E
def MTree (X : Cx) (o : Expr) (m : Str) (apos pos : Pos) (es : List Expr) (pl : Sem Bool) : Prop := eval (.Call (.Attribute o m apos) es [] pos) X.env = (do
      let ov ← eval o X.env
      standAt apos.atName
      let (f, first) ← holding [ov] (getMethod ov m pl)
      callWith pos f first (backTo pos (starEach es X.env)) (backToKw pos (keywordEach [] X.env)))
omit [KC] in
theorem pe_methV {pl : Sem Bool} {ok : Addr → Sp → Prop} {ta : TE} {t : TA} (he : PE X o ta) (hok : ∀ C sp, ok C sp → MC X m C sp) (hx : Passes (L2N.CX X.prog X.w) X E) (ha : PA X (e :: es) t)
    (hst : starEach (e :: es) X.env = (false, eval e X.env) :: starEach es X.env) (hpl : (backTo pos (starEach es X.env)).any (·.1) = false) (ht : MTree X o m apos pos (e :: es) pl) : PE X (.Call (.Attribute o m apos) (e :: es) [] pos) (tMethV m ok E ta t) := by
  constructor
  intro pins s σ H Q I h
  refine PySem.W.methodCall_KW (pl := pl) (thn (he.run pins s σ H _ I h) ?_) ht
  rintro u s1 ⟨x, H1, I1, rx, a, C, dx, kvs, sp, ex, ea, l, okC, q⟩
  subst ex
  obtain rfl : u = Value.ref a := rx
  obtain ⟨k, f, fd, ps, c, hm, F, hr, hb⟩ := (hok C sp okC).ex
  refine getmeth_ok I1 ea c hm l (PySem.W.callWith_K (first := [.ref a]) (h₀ := X.base) I.ok.mod.kin hm.kp (thn (ha.run pos pins s1 σ H1 _ I1 q) ?_) hst hpl)
  rintro us s2 ⟨vs, H2, I2, r, q2⟩
  refine ⟨I2.kIn, run_fn (us := .ref a :: us) (vs := .ref a :: vs) F hr hb .nil hx I2 (.cons rfl r) ?_⟩
  rw [List.append_nil]
  exact q2
omit [KC] in
theorem pe_methV0 {pl : Sem Bool} {ok : Addr → Sp → Prop} {ta : TE} (he : PE X o ta) (hok : ∀ C sp, ok C sp → MC X m C sp) (hx : Passes (L2N.CX X.prog X.w) X E)
    (ht : MTree X o m apos pos [] pl) : PE X (.Call (.Attribute o m apos) [] [] pos) (tMethV m ok E ta tNil) := by
  constructor
  intro pins s σ H Q I h
  refine PySem.W.methodCall_KW (pl := pl) (thn (he.run pins s σ H _ I h) ?_) ht
  rintro u s1 ⟨x, H1, I1, rx, a, C, dx, kvs, sp, ex, ea, l, okC, q⟩
  subst ex
  obtain rfl : u = Value.ref a := rx
  obtain ⟨k, f, fd, ps, c, hm, F, hr, hb⟩ := (hok C sp okC).ex
  refine getmeth_ok I1 ea c hm l (PySem.W.callWith_K0 (first := [.ref a]) I1.kIn hm.kp (run_fn (us := [.ref a]) (vs := [.ref a]) F hr hb .nil hx I1 (.cons rfl .nil) ?_))
  exact q
/-- .. with no room told -/
structure MK (P : Program) (w : World) (K : PySem.W.Frag) (mg : Str → Option Value) (base : Heap) (k : Nat) (m : Str) (C : Addr) (sp : Sp) : Prop where
  ex : ∃ f fd ps, Cls K C ∧ Meth K C m f ∧ FnOk P w K mg base (L2N.CX P w) k f fd ps sp ∧ Binds K fd ps []
theorem MK.mc {C : Addr} {sp : Sp} (h : MK X.prog X.w X.K X.mg X.base k m C sp) (hr : Room k X.A) : MC X m C sp := by
  obtain ⟨f, fd, ps, c, me, F, b⟩ := h.ex
  exact ⟨k, f, fd, ps, c, me, F, hr, b⟩
theorem mc_of {cs : List Str} {G : Str → Sp} (h : ∀ c ∈ cs, MK X.prog X.w X.K X.mg X.base k m (KC.ca c) (G c)) (hr : Room k X.A) : ∀ c ∈ cs, MC X m (KC.ca c) (G c) := fun c hc => (h c hc).mc hr
/-- the classes that are asked, each with what it keeps of the promise -/
def SPc (c : Str) (sp : Spec) : Spec := fun ds x R => (∃ fs xs r, ds = .obj c fs xs :: r) ∧ sp ds x R
theorem fn_c {P : Program} {w : World} {K : PySem.W.Frag} {mg : Str → Option Value} {base : Heap} {CX : CXT} {g : Addr} {fd : FuncData} {ps : List Str} {sp : Spec} (F : FnOk P w K mg base CX k g fd ps (spOf mg sp)) : FnOk P w K mg base CX k g fd ps (spOf mg (SPc c sp)) :=
  F.imp fun vs H Q E ⟨ds, S, x, R, h1, h2, h3, h4⟩ => ⟨ds, S, x, R, h1, h2, h3.2, h4⟩
def okD (cs : List Str) (mg : Str → Option Value) (sp : Spec) (C : Addr) (u : Sp) : Prop := ∃ c ∈ cs, C = KC.ca c ∧ u = spOf mg (SPc c sp)
/-- an object of one of these classes, without an attribute of this name -/
def isM (cs : List Str) (m : Str) (d : D) : Prop := ∃ c fs xs, d = .obj c fs xs ∧ c ∈ cs ∧ m ∉ fs
theorem okD_mc {cs : List Str} {sp : Spec} (h : ∀ c ∈ cs, MC X m (KC.ca c) (spOf X.mg (SPc c sp))) : ∀ C u, okD cs X.mg sp C u → MC X m C u := by
  rintro C u ⟨c, hc, rfl, rfl⟩
  exact h c hc
theorem allM_nil {P : Str → Prop} : ∀ c ∈ ([] : List Str), P c := fun c h => by cases h
theorem allM_cons {P : Str → Prop} {c : Str} {cs : List Str} (h : P c) (hr : ∀ c ∈ cs, P c) : ∀ d ∈ c :: cs, P d := fun d z => by
  rcases List.mem_cons.mp z with rfl | z
  · exact h
  · exact hr d z
theorem isM.dat {cs : List Str} {d : D} {S H : Hp} {v : V} (h : isM cs m d) (hd : BDat H S d v) : ∃ c fs xs a dx kvs, d = .obj c fs xs ∧ c ∈ cs ∧ v = .ref a ∧ H a = some (.ins (KC.ca c) dx kvs) ∧ kvs.lookup m = none := by
  obtain ⟨c, fs, xs, rfl, hc, hm⟩ := h
  obtain ⟨a, dx, kvs, rfl, r, e, z⟩ := hd
  exact ⟨c, fs, xs, a, dx, kvs, rfl, hc, rfl, r, look_no (by rw [e]; exact hm)⟩
def wMeth (cs : List Str) (m : Str) (sp : Spec) (wa : WE) (wl : WL) : WE := fun x ρ Q => wa x ρ fun d => isM cs m d ∧ wl x ρ fun ds => Ask sp (d :: ds) x (fun r => Q r.d) ⟨⟩
def wMethF (cs : List Str) (m : Str) (sp : Spec) (wa : WE) (wl : WL) : WL := fun x ρ Q => wa x ρ fun d => isM cs m d ∧ wl x ρ fun ds => Ask sp (d :: ds) x (onNew Q) ⟨⟩
def wMethN (cs : List Str) (m : Str) (sp : Spec) (wa : WE) (wl : WL) : WE := fun x ρ Q => wa x ρ fun d => isM cs m d ∧ wl x ρ fun ds => Ask sp (d :: ds) x (fun r => nlR r = true ∧ Q r.d) ⟨⟩
/-- o.m() of a shared object -/
theorem ed_meth0 {pl : Sem Bool} {cs : List Str} {sp : Spec} (h : ∀ c ∈ cs, MC X m (KC.ca c) (spOf X.mg (SPc c sp))) (xk : XOk X E) (ho : ED X E o wa) (ht : MTree X o m apos pos [] pl := by exact rfl) : ED X E (.Call (.Attribute o m apos) [] [] pos) (wMeth cs m sp wa wNil) := by
  obtain ⟨ta, pa, sa⟩ := ho.ex
  refine ⟨_, pe_methV0 pa (okD_mc h) xk.pass ht, fun x ρ Q hw F σ H S Q' rp ex k => ?_⟩
  refine sa x ρ _ hw F σ H S _ rp ex fun d u H1 S1 q1 g1 h1 => ?_
  obtain ⟨c, fs, xs, a, dx, kvs, rfl, hc, rfl, r, l⟩ := q1.1.dat (BDat.of g1.sh h1)
  refine ⟨a, _, dx, kvs, _, rfl, r, l, ⟨c, hc, rfl, rfl⟩, [_], S1, x, _, ⟨g1.sh, (rp.grow g1).fg.tb⟩, .one h1, ⟨⟨fs, xs, [], rfl⟩, q1.2⟩, fun r v H2 S2 q2 g2 h2 => ?_, fun n C H2 S2 xn hC g2 => ex n C H2 S2 xn hC (g1.trans g2)⟩
  obtain ⟨S3, g3, h3⟩ := h2.dat g2
  exact k _ _ H2 S3 q2 (g1.trans g3) h3
theorem df_meth0 {pl : Sem Bool} {cs : List Str} {sp : Spec} (h : ∀ c ∈ cs, MC X m (KC.ca c) (spOf X.mg (SPc c sp))) (xk : XOk X E) (ho : ED X E o wa) (ht : MTree X o m apos pos [] pl := by exact rfl) : DF X E (.Call (.Attribute o m apos) [] [] pos) (wMethF cs m sp wa wNil) := by
  obtain ⟨ta, pa, sa⟩ := ho.ex
  refine ⟨_, pe_methV0 pa (okD_mc h) xk.pass ht, fun x ρ Q hw F σ H S Q' rp ex k => ?_⟩
  refine sa x ρ _ hw F σ H S _ rp ex fun d u H1 S1 q1 g1 h1 => ?_
  obtain ⟨c, fs, xs, a, dx, kvs, rfl, hc, rfl, r, l⟩ := q1.1.dat (BDat.of g1.sh h1)
  refine ⟨a, _, dx, kvs, _, rfl, r, l, ⟨c, hc, rfl, rfl⟩, [_], S1, x, _, ⟨g1.sh, (rp.grow g1).fg.tb⟩, .one h1, ⟨⟨fs, xs, [], rfl⟩, q1.2⟩, fun r v H2 S2 q2 g2 h2 => ?_, fun n C H2 S2 xn hC g2 => ex n C H2 S2 xn hC (g1.trans g2)⟩
  cases r with
  | val d => exact q2.elim
  | newT d => exact q2.elim
  | new c =>
    cases c with
    | dct _ _ => exact q2.elim
    | obj _ _ _ => exact q2.elim
    | lst xs =>
      obtain ⟨p, o, rfl, z0, z1, z2, ws, rfl, z3⟩ := h2
      exact k xs p ws H2 S2 q2 (g1.trans g2) (g1.freeH z0) z1 z2 z3
/-- o.m() of an object that may be a slot's own, telling no list -/
theorem ed_methN0 {pl : Sem Bool} {cs : List Str} {sp : Spec} (h : ∀ c ∈ cs, MC X m (KC.ca c) (spOf X.mg (SPc c sp))) (xk : XOk X E) (ho : BD X E o wa) (ht : MTree X o m apos pos [] pl := by exact rfl) : ED X E (.Call (.Attribute o m apos) [] [] pos) (wMethN cs m sp wa wNil) := by
  obtain ⟨ta, pa, sa⟩ := ho.ex
  refine ⟨_, pe_methV0 pa (okD_mc h) xk.pass ht, fun x ρ Q hw F σ H S Q' rp ex k => ?_⟩
  refine sa x ρ _ hw F σ H S _ rp ex fun d u H1 S1 q1 g1 h1 => ?_
  obtain ⟨c, fs, xs, a, dx, kvs, rfl, hc, rfl, r, l⟩ := q1.1.dat h1
  refine ⟨a, _, dx, kvs, _, rfl, r, l, ⟨c, hc, rfl, rfl⟩, [_], plusS H1 S1 [.ref a], x, _, ⟨plus_sh g1.sh, plus_tb (rp.grow g1).fg.tb⟩, plus_dats (vs := [.ref a]) (ds := [.obj c fs xs]) g1.sh ⟨_, _, rfl, h1, rfl⟩ fun _ h => h, ⟨⟨fs, xs, [], rfl⟩, q1.2⟩, fun r v H2 S2 q2 g2 h2 => ?_, fun n C H2 S2 xn hC g2 => ex n C H2 _ xn hC (g1.trans (minus_grow g1.sh g2))⟩
  obtain ⟨S3, g3, h3⟩ := (minus_rt g2 q2.1 h2).dat (minus_grow g1.sh g2)
  exact k _ _ H2 S3 q2.2 (g1.trans g3) h3
end
end NL

/-! Methods that change their own object, making of objects. -/
namespace NL
open PySem PySem.Spec L2
open PyProof.Rows hiding St
variable [KC]

/-- content, the other arguments, what may be raised, behind: content, what is told -/
abbrev SpecO := Cn → List D → XS → (Cn → D → Prop) → Prop
def spOfO (mg : Str → Option Value) (sp : SpecO) : Sp := fun vs H Q E => ∃ p o rest c ds S x R, vs = .ref p :: rest ∧ (Same S H ∧ Tbq S H) ∧ S p = none ∧ H p = some o ∧ CnOk S c o ∧ Dats S ds rest ∧ sp c ds x R ∧
  (∀ c' d v H' S' o', R c' d → GrowM p H S H' S' → H' p = some o' → CnOk S' c' o' → Dat S' d v → Q v H') ∧ (∀ n C H' S', x n → mg n = some (.ref C) → GrowM p H S H' S' → E (.ref C) none H')
section
variable {P : Program} {w : World} {K : PySem.W.Frag} {mg : Str → Option Value} {base : Heap}
def endO (R : Cn → D → Prop) (r : Rt) (ρ : Ev) : Prop := match r, (ρ[0]? : Option Sl) with
  | .val d, some (.own true c) => R c d
  | _, _ => False
def endsO (R : Cn → D → Prop) (x : XS) : DEnds where
  nx := endO R (.val .non)
  rt := endO R
  ex := x
def startO (n : Nat) (c : Cn) (ds : List D) : Ev := .own true c :: startE (n - 1) ds
theorem rep_startO {H S : Hp} {N : List Str} {ds : List D} {c : Cn} {vs : List V} {p : Addr} {o : HO} (sh : Same S H) (tb : Tbq S H) (hS : S p = none) (hH : H p = some o) (hx : CnOk S c o) (h : Dats S ds vs) (hl : ds.length + 1 ≤ N.length) :
    Rep { H0 := H, S0 := S, M := fun a => a = p } (startO N.length c ds) (L2.start N (.ref p :: vs)) H S := by
  have hlen := h.len
  have st : L2.start N (.ref p :: vs) = some (.ref p) :: (vs.map some ++ List.replicate (N.length - (vs.length + 1)) none) := rfl
  have pick : ∀ (i : Nat) (sl : Sl), (startE (N.length - 1) ds)[i]? = some sl → (∃ d, ds[i]? = some d ∧ sl = .fz d) ∨ sl = .un := fun i sl e => by
    unfold startE at e
    rcases Nat.lt_or_ge i ds.length with hi | hi
    · rw [List.getElem?_append_left (by simpa using hi), List.getElem?_map] at e
      cases q : ds[i]? with
      | none => rw [q] at e; cases e
      | some d => rw [q] at e; cases e; exact .inl ⟨d, rfl, rfl⟩
    · rw [List.getElem?_append_right (by simpa using hi), List.getElem?_replicate] at e
      split at e
      · cases e; exact .inr rfl
      · cases e
  refine ⟨⟨fun _ _ _ e _ => e, fun _ e => e, .refl _, sh, fun _ _ => rfl, fun _ _ _ h => h, tb⟩, ?_, fun i sl e => ?_, fun i j m m' _ _ ne e1 e2 => ?_⟩
  · rw [st]
    unfold startO startE
    simp only [List.length_append, List.length_map, List.length_replicate, List.length_cons]
    omega
  · rw [st]
    cases i with
    | zero =>
      cases e
      exact ⟨p, _, rfl, hS, hH, hx, fun _ => rfl, fun z => by cases z⟩
    | succ i =>
      have e' : (startE (N.length - 1) ds)[i]? = some sl := e
      rw [List.getElem?_cons_succ]
      rcases pick i sl e' with ⟨d, q, rfl⟩ | rfl
      · obtain ⟨v, hv, hz⟩ := h.get q
        have hi : i < ds.length := (List.getElem?_eq_some_iff.mp q).1
        refine ⟨v, ?_, hz⟩
        rw [List.getElem?_append_left (by rw [List.length_map, hlen]; exact hi), List.getElem?_map, hv]
        rfl
      · trivial
  · have only : ∀ (i : Nat) (m : Bool) (c' : Cn), (startO N.length c ds)[i]? = some (.own m c') → i = 0 := fun i m c' e => by
      cases i with
      | zero => rfl
      | succ i =>
        have e' : (startE (N.length - 1) ds)[i]? = some (.own m c') := e
        rcases pick i _ e' with ⟨d, _, z⟩ | z <;> cases z
    exact absurd ((only i m _ e1).trans (only j m' _ e2).symm) ne
theorem fg_growM {H S H' S' : Hp} {p : Addr} (f : FGrow { H0 := H, S0 := S, M := fun a => a = p } H' S') : GrowM p H S H' S' := ⟨fun a o n e nt => f.hh a o n e nt, f.al, f.ft, f.ss, f.sh, f.nw⟩
theorem fn_okO {x qual : Str} {st : Stmt} {f : Addr} {fd : FuncData} {N ps : List Str} {k : Nat} {sp : SpecO} (F : Fun K x qual st f fd) (S : FnScope N ps (defScope st)) (len : ∀ c ds x R, sp c ds x R → ds.length + 1 = ps.length)
    (hbody : ∀ (cdv : Value) (A : Around) (outer : List Env) (s : Shared) (H : Hp) (E : XK), Room k (A.deeper (envOfC qual (defScope st) s.heap.objs.size f cdv)) → XOk (cxF P w K mg base N qual (defScope st) f cdv A outer s H E) E →
      ∃ ws, SDs (cxF P w K mg base N qual (defScope st) f cdv A outer s H E) E (defBody st) ws ∧ ∀ c ds x R, sp c ds x R → ws (endsO R x) (startO N.length c ds)) :
    FnOk P w K mg base (L2N.CX P w) (k + 1) f fd ps (spOfO mg sp) := by
  have hpl : ps.length ≤ N.length := by
    have := congrArg List.length S.pre
    rw [List.length_take] at this
    omega
  refine okN F S (fun vs H Q E h => ?_) (fun cdv A outer s H vs Q E hr h => ?_)
  · obtain ⟨p, o, rest, c, ds, S0, x, R, rfl, _, _, _, _, hd, hs, _⟩ := h
    rw [List.length_cons, hd.len]
    exact len c ds x R hs
  · obtain ⟨p, o, rest, c, ds, S0, x, R, rfl, ⟨sh, tb⟩, hS, hH, hx, hd, hs, k1, k2⟩ := h
    obtain ⟨ws, sd, pure⟩ := hbody cdv A outer s H E hr xk_fn
    obtain ⟨t, pt, so⟩ := sd.ex
    have hl : ds.length + 1 ≤ N.length := by rw [len c ds x R hs]; exact hpl
    have fin : ∀ {ρ : Ev} {σ : L2.St} {H' S' : Hp} {c' : Cn} {d : D} {v : V}, Rep { H0 := H, S0 := S0, M := fun a => a = p } ρ σ H' S' → ρ[0]? = some (.own true c') → R c' d → Dat S' d v → Q v H' := fun {ρ σ H' S' c' d v} r h0 q hd => by
      obtain ⟨p', o', e1, e2, e3, e4, e5, _⟩ := r.own h0
      have : p' = p := e5 rfl
      subst this
      exact k1 c' d v H' S' o' q (fg_growM r.fg) e3 e4 hd
    refine ⟨t, pt, so _ _ (pure c ds x R hs) _ _ H S0 _ (rep_startO sh tb hS hH hx hd hl) ⟨fun ρ σ H' S' q r => ?_, fun r ρ v σ H' S' q rp pp => ?_, fun _ _ _ _ z => z.elim, fun _ _ _ _ z => z.elim, fun n C H' S' h1 h2 h3 => k2 n C H' S' h1 h2 (fg_growM h3)⟩⟩
    · simp only [endsO, endO] at q
      split at q
      · rename_i d c' h1 h0
        cases h1
        exact fin (v := .non) r h0 q (show Dat S' .non .non from .n)
      · exact q.elim
    · simp only [endsO, endO] at q
      split at q
      · rename_i d c' h0
        exact fin rp h0 q pp
      · exact q.elim
end
/-- behind a raise within a callee that changes a slot's own thing -/
theorem Rep.fgM {F : Fr} {ρ : Ev} {σ : L2.St} {H S H' S' : Hp} {i : Nat} {m : Bool} {c : Cn} {p : Addr} (r : Rep F ρ σ H S) (h : ρ[i]? = some (.own m c)) (hp : σ[i]? = some (some (.ref p))) (g : GrowM p H S H' S') : FGrow F H' S' := by
  obtain ⟨p', o1, e1, e2, e3, e4, e5, e6⟩ := r.own h
  have : p' = p := by
    rw [e1] at hp
    cases hp
    rfl
  subst this
  refine ⟨fun a u hm ha nt => ?_, fun a ha => g.ne a (r.fg.al a ha), r.fg.ss.trans g.ss, g.sh, fun a ha => (g.nw a (r.fg.al a ha)).trans (r.fg.nw a ha), fun P q m h => g.tab P q m (r.fg.ft P q m h), ⟨fun q h => g.tab _ _ h (r.fg.tb.1 q h), fun q h => (g.nw q.1 (tab_ne (r.fg.tb.1 q h))).trans (r.fg.tb.2 q h)⟩⟩
  have ne : a ≠ p' := fun z => by
    subst z
    cases m with
    | true => exact hm (e5 rfl)
    | false => rw [e6 rfl] at ha; cases ha
  exact g.hh a u ne (r.fg.hh a u hm ha nt) nt
theorem fg_rep {F : Fr} {σ : L2.St} {H S : Hp} (f : FGrow F H S) : Rep F (List.replicate σ.length .un) σ H S := by
  refine ⟨f, by simp, fun i sl e => ?_, fun i j m m' c c' _ e _ => ?_⟩
  · rw [List.getElem?_replicate] at e
    split at e
    · cases e; trivial
    · cases e
  · rw [List.getElem?_replicate] at e
    split at e <;> cases e

section
variable {X : Cx} {E : XK} {e o : Expr} {es : List Expr} {pos apos mpos p p1 : Pos} {w wa : WE} {wl : WL} {wm : WM} {c m f x y : Str} {fs : List Str} {i k : Nat} {sp : SpecO}
def AskO (sp : SpecO) (c : Cn) (ds : List D) (x : XS) (K : Cn → D → Prop) (_ : Tg K) : Prop := sp c ds x K
/-- self.m(..), self a slot's own object that m may change -/
def wmMeth (i : Nat) (c : Str) (fs : List Str) (sp : SpecO) (wl : WL) : WM := fun x ρ Q => match ρ[i]? with
  | some (.own m (.obj c' fs' xs)) => isO c fs c' fs' ∧ wl x ρ fun ds => AskO sp (.obj c fs xs) ds x (fun c' d => Q d (ρ.set i (.own m c'))) ⟨⟩
  | _ => False
theorem em_meth {pl : Sem Bool} (i : Nat) (c : Str) (fs : List Str) (h : MC X m (KC.ca c) (spOfO X.mg sp)) (xk : XOk X E) (ha : AD X E (e :: es) wl) (hm : m ∉ fs := by decide +kernel)
    (hN : X.N[i]? = some y := by rfl) (hv : Vis X.env.scope y := by first | exact Or.inl rfl | exact Or.inr (Or.inl rfl) | exact Or.inr (Or.inr rfl)) (hd : (y == ("__debug__" : Str)) = false := by decide) (hcd : (y == ("__classdict__" : Str)) = false := by decide)
    (hst : starEach (e :: es) X.env = (false, eval e X.env) :: starEach es X.env := by rfl) (hpl : (backTo pos (starEach es X.env)).any (·.1) = false := by rfl) (ht : MTree X (.Name y p) m apos pos (e :: es) pl := by exact rfl) :
    EM X E (.Call (.Attribute (.Name y p) m apos) (e :: es) [] pos) (wmMeth i c fs sp wl) := by
  obtain ⟨t, pt, s⟩ := ha.ex
  refine ⟨_, pe_methV (ok := fun C u => C = KC.ca c ∧ u = spOfO X.mg sp) (pe_var hN hv hd hcd) (fun C u ⟨e1, e2⟩ => by subst e1 e2; exact h) xk.pass pt hst hpl ht, fun x ρ Q hw F σ H S Q' rp ex k => ?_⟩
  unfold wmMeth at hw
  split at hw
  · rename_i m' c' fs' xs hi
    obtain ⟨⟨rfl, rfl⟩, hw⟩ := hw
    obtain ⟨l, u, e1, h1, h2, ⟨dx, kvs, rfl, e2, h3⟩, _⟩ := rp.own hi
    refine ⟨.ref l, e1, l, _, dx, kvs, _, rfl, h2, look_no (by rw [e2]; exact hm), ⟨rfl, rfl⟩, ?_⟩
    refine s x ρ _ hw F σ H S _ rp (ex _ _ _ rp) fun ds vs H1 S1 q1 g1 hds => ?_
    have rp1 := rp.grow g1
    refine ⟨l, _, vs, .obj c' fs' xs, ds, S1, x, _, rfl, ⟨g1.sh, rp1.fg.tb⟩, by rw [g1.nw l (by rw [h2]; intro z; cases z)]; exact h1, g1.hh.ins h2, ⟨dx, kvs, rfl, e2, Dats.mono g1.ss _ _ h3⟩, hds, q1, fun c' d v H2 S2 o2 q2 g2 z1 z2 z3 => ?_, fun n C H2 S2 xn hC g2 => ?_⟩
    · exact k d v _ H2 S2 q2 (rp1.putM hi e1 g2 z1 z2) (g1.ss.trans g2.ss) z3
    · have fg := rp1.fgM hi e1 g2
      exact ex _ _ _ (fg_rep (σ := σ) fg) n C H2 S2 xn hC (.refl fg.sh)
  · exact hw.elim
theorem em_meth0 {pl : Sem Bool} (i : Nat) (c : Str) (fs : List Str) (h : MC X m (KC.ca c) (spOfO X.mg sp)) (xk : XOk X E) (hm : m ∉ fs := by decide +kernel)
    (hN : X.N[i]? = some y := by rfl) (hv : Vis X.env.scope y := by first | exact Or.inl rfl | exact Or.inr (Or.inl rfl) | exact Or.inr (Or.inr rfl)) (hd : (y == ("__debug__" : Str)) = false := by decide) (hcd : (y == ("__classdict__" : Str)) = false := by decide)
    (ht : MTree X (.Name y p) m apos pos [] pl := by exact rfl) : EM X E (.Call (.Attribute (.Name y p) m apos) [] [] pos) (wmMeth i c fs sp wNil) := by
  refine ⟨_, pe_methV0 (ok := fun C u => C = KC.ca c ∧ u = spOfO X.mg sp) (pe_var hN hv hd hcd) (fun C u ⟨e1, e2⟩ => by subst e1 e2; exact h) xk.pass ht, fun x ρ Q hw F σ H S Q' rp ex k => ?_⟩
  unfold wmMeth at hw
  split at hw
  · rename_i m' c' fs' xs hi
    obtain ⟨⟨rfl, rfl⟩, hw⟩ := hw
    obtain ⟨l, u, e1, h1, h2, ⟨dx, kvs, rfl, e2, h3⟩, _⟩ := rp.own hi
    refine ⟨.ref l, e1, l, _, dx, kvs, _, rfl, h2, look_no (by rw [e2]; exact hm), ⟨rfl, rfl⟩, ?_⟩
    refine ⟨l, _, [], .obj c' fs' xs, [], S, x, _, rfl, ⟨rp.sh, rp.fg.tb⟩, h1, h2, ⟨dx, kvs, rfl, e2, h3⟩, .nil, hw, fun c' d v H2 S2 o2 q2 g2 z1 z2 z3 => ?_, fun n C H2 S2 xn hC g2 => ?_⟩
    · exact k d v _ H2 S2 q2 (rp.putM hi e1 g2 z1 z2) g2.ss z3
    · have fg := rp.fgM hi e1 g2
      exact ex _ _ _ (fg_rep (σ := σ) fg) n C H2 S2 xn hC (.refl fg.sh)
  · exact hw.elim
def wsExprM (wm : WM) : WS := fun q ρ => wm q.ex ρ fun _ ρ1 => q.nx ρ1
theorem sd_exprM (he : EM X E e wm) (hs : swapsWith e none pos.line X.env = pure false := by rfl) : SD X E (.Expr e pos) (wsExprM wm) := by
  obtain ⟨t, pe, s⟩ := he.ex
  refine ⟨_, ps_expr pe hs, fun q ρ hw F σ H S D rp o => ?_⟩
  exact s q.ex ρ _ hw F σ H S _ rp (fun _ _ _ r => o.exOk r) fun d v ρ1 H1 S1 q1 r1 e1 h1 => o.nx _ _ H1 S1 q1 r1
def wsRetM (wm : WM) : WS := fun q ρ => wm q.ex ρ fun d ρ1 => q.rt (.val d) ρ1
theorem sd_retM (he : EM X E e wm) : SD X E (.Return (some e) pos) (wsRetM wm) := by
  obtain ⟨t, pe, s⟩ := he.ex
  refine ⟨_, ps_ret pe, fun q ρ hw F σ H S D rp o => ?_⟩
  exact s q.ex ρ _ hw F σ H S _ rp (fun _ _ _ r => o.exOk r) fun d v ρ1 H1 S1 q1 r1 e1 h1 => o.rt _ ρ1 v σ H1 S1 q1 r1 h1

/-! ### arguments, the last one with an effect -/
structure AM (X : Cx) (E : XK) (es : List Expr) (w : XS → Ev → (List D → Ev → Prop) → Prop) : Prop where
  ex : ∃ t : TA, PA X es t ∧ ∀ (x : XS) (ρ : Ev) (Q : List D → Ev → Prop), w x ρ Q → ∀ (F : Fr) (σ : L2.St) (H S : Hp) (Q' : List V → Hp → Prop), Rep F ρ σ H S → (∀ ρ H S, Rep F ρ σ H S → ExOk X.mg E x H S) →
    (∀ ds vs ρ' H' S', Q ds ρ' → Rep F ρ' σ H' S' → Same S S' → Dats S' ds vs → Q' vs H') → t σ H Q'
def wmOne (wm : WM) : XS → Ev → (List D → Ev → Prop) → Prop := fun x ρ Q => wm x ρ fun d ρ1 => Q [d] ρ1
theorem am_one (he : EM X E e wm) (hs : starEach (e :: []) X.env = (false, eval e X.env) :: starEach [] X.env := by rfl) : AM X E [e] (wmOne wm) := by
  obtain ⟨t, pe, s⟩ := he.ex
  refine ⟨_, pa_cons pe pa_nil hs, fun x ρ Q hw F σ H S Q' rp ex k => ?_⟩
  exact s x ρ _ hw F σ H S _ rp ex fun d v ρ1 H1 S1 q1 r1 e1 h1 => k _ _ ρ1 H1 S1 q1 r1 e1 (.one h1)
def wmCons (wa : WE) (wl : XS → Ev → (List D → Ev → Prop) → Prop) : XS → Ev → (List D → Ev → Prop) → Prop := fun x ρ Q => wa x ρ fun d => wl x ρ fun ds ρ1 => Q (d :: ds) ρ1
theorem am_cons {wl : XS → Ev → (List D → Ev → Prop) → Prop} (ha : ED X E e wa) (hr : AM X E es wl) (hs : starEach (e :: es) X.env = (false, eval e X.env) :: starEach es X.env := by rfl) : AM X E (e :: es) (wmCons wa wl) := by
  obtain ⟨t, pe, s⟩ := ha.ex
  obtain ⟨t', pr, s'⟩ := hr.ex
  refine ⟨_, pa_cons pe pr hs, fun x ρ Q hw F σ H S Q' rp ex k => ?_⟩
  refine s x ρ _ hw F σ H S _ rp (ex _ _ _ rp) fun d v H1 S1 q1 g1 h1 => ?_
  refine s' x ρ _ q1 F σ H1 S1 _ (rp.grow g1) ex fun ds vs ρ2 H2 S2 q2 r2 e2 h2 => ?_
  exact k _ _ ρ2 H2 S2 q2 r2 (g1.ss.trans e2) (.cons (Dat.mono e2 _ _ h1) h2)

/-! ### making -/
/-- what an __init__ gets -/
theorem grow_made {H S H' S' : Hp} {x dx C : Addr} (sh : Same S H) (hx : H x = none) (hdx : H dx = none) (g : GrowM x (upd (upd H dx (.own x)) x (.ins C dx [])) S H' S') : Grow H S H' S' ∧ S' x = none := by
  have low : ∀ b o, H b = some o → (upd (upd H dx (.own x)) x (.ins C dx [])) b = some o := fun b o h => by
    rw [upd_ne (ne_of_none h hx), upd_ne (ne_of_none h hdx)]
    exact h
  have ne0 : ∀ b, H b ≠ none → (upd (upd H dx (.own x)) x (.ins C dx [])) b ≠ none := fun b h => by
    cases q : H b with
    | none => exact absurd q h
    | some o => rw [low b o q]; intro z; cases z
  have tb : ∀ P q, LamX.TabS H P q → LamX.TabS (upd (upd H dx (.own x)) x (.ins C dx [])) P q := fun P q h => h.ext low
  refine ⟨⟨⟨fun b o h n => g.hh b o (fun z => by subst z; rw [hx] at h; cases h) (low b o h) n, fun b h => g.ne b (ne0 b h), fun P q m h => g.tab P q m (tb P q h)⟩, g.ss, g.sh, fun a h => g.nw a (ne0 a h)⟩, ?_⟩
  rw [g.nw x (by rw [upd_same]; intro z; cases z)]
  exact sh.free hx
theorem tbq_made {H S : Hp} {x dx C : Addr} (t : Tbq S H) (hx : H x = none) (hdx : H dx = none) : Tbq S (upd (upd H dx (.own x)) x (.ins C dx [])) :=
  ⟨fun p hp => (t.1 p hp).ext fun b o h => by
    rw [upd_ne (ne_of_none h hx), upd_ne (ne_of_none h hdx)]
    exact h, t.2⟩
theorem same_made {H S : Hp} {x dx C : Addr} (sh : Same S H) (hx : H x = none) (hdx : H dx = none) : Same S (upd (upd H dx (.own x)) x (.ins C dx [])) := fun b o h => by
  have := sh b o h
  rw [upd_ne (ne_of_none this hx), upd_ne (ne_of_none this hdx)]
  exact this
/-- the call of a class, for whatever its arguments are -/
theorem made_ok {mg : Str → Option Value} {c : Str} {ds : List D} {vs : List V} {xs : XS} {K : Cn → D → Prop} {H S : Hp} {Q : VK} (sh : Same S H) (tb : Tbq S H) (h : Dats S ds vs) (hs : sp (.obj c [] []) ds xs K) (ex : ExOk mg E xs H S)
    (k : ∀ c' d x o H' S', K c' d → Grow H S H' S' → H x = none → S' x = none → H' x = some o → CnOk S' c' o → d = .non → Q (.ref x) H') (hn : ∀ c' d, K c' d → d = .non) :
    ∀ x dx, H x = none → H dx = none → dx ≠ x → spOfO mg sp (.ref x :: (vs ++ [])) (upd (upd H dx (.own x)) x (.ins (KC.ca c) dx [])) (fun v H2 => v = .non ∧ Q (.ref x) H2) E := by
  intro x dx hx hdx ne
  refine ⟨x, _, vs, .obj c [] [], ds, S, xs, K, by rw [List.append_nil], ⟨same_made sh hx hdx, tbq_made tb hx hdx⟩, sh.free hx, upd_same, ⟨dx, [], rfl, rfl, .nil⟩, h, hs, fun c' d v H' S' o' q g z1 z2 z3 => ?_, fun n C H' S' xn hC g => ?_⟩
  · obtain ⟨g', hS⟩ := grow_made sh hx hdx g
    have := hn c' d q
    subst this
    unfold Dat at z3
    exact ⟨z3, k c' _ x o' H' S' q g' hx hS z1 z2 rfl⟩
  · exact ex n C H' S' xn hC (grow_made sh hx hdx g).1
def wMake (c : Str) (sp : SpecO) (wl : WL) : WE := fun x ρ Q => wl x ρ fun ds => AskO sp (.obj c [] []) ds x (fun c' d => d = .non ∧ Q c'.d) ⟨⟩
theorem ed_make {f : Addr} {fd : FuncData} {ps : List Str} (c : Str) (M : Mk X.K (KC.ca c) f) (F : FnOk X.prog X.w X.K X.mg X.base (L2N.CX X.prog X.w) k f fd ps (spOfO X.mg sp)) (hr : Room (k + 1) X.A) (xk : XOk X E) (hg : Gl X x) (hm : X.mg x = some (.ref (KC.ca c))) (hb : Binds X.K fd ps [])
    (ha : AD X E (e :: es) wl) (hdb : (x == ("__debug__" : Str)) = false := by decide) (he : starEach (e :: es) X.env = (false, eval e X.env) :: starEach es X.env := by rfl) (hpl : (backTo pos (starEach es X.env)).any (·.1) = false := by rfl) :
    ED X E (.Call (.Name x p) (e :: es) [] pos) (wMake c sp wl) := by
  obtain ⟨t, pt, s⟩ := ha.ex
  refine ⟨_, pe_make M F hr hg hm hb .nil xk.pass pt hdb he hpl, fun x ρ Q hw F σ H S Q' rp ex k => ?_⟩
  refine s x ρ _ hw F σ H S _ rp ex fun ds vs H1 S1 q1 g1 h1 => ?_
  refine made_ok g1.sh (rp.grow g1).fg.tb h1 q1 (ex.grow g1) (fun c' d y o H' S' q g hx hS hH hc _ => ?_) fun _ _ z => z.1
  exact k _ _ H' (upd S' y o) q.2 (g1.trans (g.share hx hS hH)) (CnOk.dat upd_same (hc.mono (same_upd hS)))
def wmMake (c : Str) (sp : SpecO) (wl : XS → Ev → (List D → Ev → Prop) → Prop) : WM := fun x ρ Q => wl x ρ fun ds ρ1 => AskO sp (.obj c [] []) ds x (fun c' d => d = .non ∧ Q c'.d ρ1) ⟨⟩
theorem em_make {f : Addr} {fd : FuncData} {ps : List Str} {wl : XS → Ev → (List D → Ev → Prop) → Prop} (c : Str) (M : Mk X.K (KC.ca c) f) (F : FnOk X.prog X.w X.K X.mg X.base (L2N.CX X.prog X.w) k f fd ps (spOfO X.mg sp)) (hr : Room (k + 1) X.A) (xk : XOk X E) (hg : Gl X x) (hm : X.mg x = some (.ref (KC.ca c))) (hb : Binds X.K fd ps [])
    (ha : AM X E (e :: es) wl) (hdb : (x == ("__debug__" : Str)) = false := by decide) (he : starEach (e :: es) X.env = (false, eval e X.env) :: starEach es X.env := by rfl) (hpl : (backTo pos (starEach es X.env)).any (·.1) = false := by rfl) :
    EM X E (.Call (.Name x p) (e :: es) [] pos) (wmMake c sp wl) := by
  obtain ⟨t, pt, s⟩ := ha.ex
  refine ⟨_, pe_make M F hr hg hm hb .nil xk.pass pt hdb he hpl, fun x ρ Q hw F σ H S Q' rp ex k => ?_⟩
  refine s x ρ _ hw F σ H S _ rp ex fun ds vs ρ1 H1 S1 q1 r1 e1 h1 => ?_
  refine made_ok r1.sh r1.fg.tb h1 q1 (ex _ _ _ r1) (fun c' d y o H' S' q g hx hS hH hc _ => ?_) fun _ _ z => z.1
  exact k _ _ ρ1 H' (upd S' y o) q.2 (r1.grow (g.share hx hS hH)) (e1.trans (g.ss.trans (same_upd hS))) (CnOk.dat upd_same (hc.mono (same_upd hS)))
/-- x = C(..), the slot's own -/
def wsSetMk (i : Nat) (c : Str) (sp : SpecO) (wl : WL) : WS := fun q ρ => wl q.ex ρ fun ds => AskO sp (.obj c [] []) ds q.ex (fun c' d => d = .non ∧ q.nx (ρ.set i (.own false c'))) ⟨⟩
theorem sd_setMk {f : Addr} {fd : FuncData} {ps : List Str} (i : Nat) (c : Str) (hN : X.N.Nodup) (M : Mk X.K (KC.ca c) f) (F : FnOk X.prog X.w X.K X.mg X.base (L2N.CX X.prog X.w) k f fd ps (spOfO X.mg sp)) (hr : Room (k + 1) X.A) (xk : XOk X E) (hg : Gl X x) (hm : X.mg x = some (.ref (KC.ca c))) (hb : Binds X.K fd ps [])
    (ha : AD X E (e :: es) wl) (hi : X.N[i]? = some y := by rfl) (hy : Loc X.env.scope y := by first | exact Or.inl rfl | exact Or.inr rfl) (hs : swapsWith (.Call (.Name x p) (e :: es) [] mpos) (some (.Name y p1)) pos.line X.env = pure false := by rfl)
    (hf : X.fn y = true ∨ X.env.scope.names.lookup y = some .local := by first | exact .inl rfl | exact .inr rfl)
    (hdb : (x == ("__debug__" : Str)) = false := by decide) (he : starEach (e :: es) X.env = (false, eval e X.env) :: starEach es X.env := by rfl) (hpl : (backTo mpos (starEach es X.env)).any (·.1) = false := by rfl) :
    SD X E (.Assign [.Name y p1] (.Call (.Name x p) (e :: es) [] mpos) pos) (wsSetMk i c sp wl) := by
  obtain ⟨t, pt, s⟩ := ha.ex
  refine ⟨_, ps_set hN hi hy (pe_make M F hr hg hm hb .nil xk.pass pt hdb he hpl) hs hf, fun q ρ hw F σ H S D rp o => ?_⟩
  refine s q.ex ρ _ hw F σ H S _ rp (o.exOk rp) fun ds vs H1 S1 q1 g1 h1 => ?_
  have rp1 := rp.grow g1
  refine made_ok (Q := fun x H1 => gName i x σ H1 D.nx) g1.sh rp1.fg.tb h1 q1 ((o.exOk rp).grow g1) (fun c' d z u H' S' q2 g hx hS hH hc _ => ?_) fun _ _ z => z.1
  exact o.nx _ _ H' S' q2.2 ((rp1.grow g).setOwn hS hH hc (fg_free rp1.fg hx) (own_ne rp1 hx))

/-! ### int(text), str(text) -/
def gToIntS : List D → (D → Prop) → Prop
  | [.str s], Q => ∃ n, PySem.intText? s = some n ∧ s.length ≤ 640 ∧ Q (.int n)
  | _, _ => False
theorem cIntS : CalD X (.type "int") gToIntS := by
  refine ⟨_, call_int_str, fun ds Q h H S vs Q' sh hd k => ?_⟩
  unfold gToIntS at h
  split at h
  · obtain ⟨v, rfl, hz⟩ := hd.one
    obtain ⟨n, h1, h2, q⟩ := h
    cases hz.s
    exact ⟨_, n, rfl, h1, h2, k _ _ H S q (.refl sh) .i⟩
  · exact h.elim
end
def gStr : List D → (D → Prop) → Prop
  | [.int i], Q => i.natAbs.log2 < 1920 ∧ Q (.str (toString i))
  | _, _ => False
theorem cStr {X : Cx} : CalD X (.type "str") gStr := by
  refine ⟨_, call_str_int, fun ds Q h H S vs Q' sh hd k => ?_⟩
  unfold gStr at h
  split at h
  · obtain ⟨v, rfl, hz⟩ := hd.one
    cases hz.i
    exact ⟨_, rfl, h.1, k _ _ H S h.2 (.refl sh) .s⟩
  · exact h.elim
/-- a promise that nobody may ask for -/
theorem fn_noS {P : Program} {w : World} {K : PySem.W.Frag} {mg : Str → Option Value} {base : Heap} {CX : CXT} {k : Nat} {f : Addr} {fd : FuncData} {ps : List Str} {sp : Sp} (h : ∀ vs H Q E, ¬ sp vs H Q E) : FnOk P w K mg base CX k f fd ps sp :=
  ⟨fun vs H Q E z => (h vs H Q E z).elim, fun _ _ _ H _ _ vs Q E _ _ _ _ z => (h vs H Q E z).elim⟩
theorem fn_noO {P : Program} {w : World} {K : PySem.W.Frag} {mg : Str → Option Value} {base : Heap} {CX : CXT} {k : Nat} {f : Addr} {fd : FuncData} {ps : List Str} {sp : SpecO} (h : ∀ c ds x R, ¬ sp c ds x R) : FnOk P w K mg base CX k f fd ps (spOfO mg sp) :=
  fn_noS fun _ _ _ _ ⟨_, _, _, _, _, _, _, _, _, _, _, _, _, _, hs, _⟩ => h _ _ _ _ hs
theorem fn_noC {P : Program} {w : World} {K : PySem.W.Frag} {mg : Str → Option Value} {base : Heap} {c : Str} {k : Nat} {f : Addr} {fd : FuncData} {ps : List Str} {sp : Spec} (h : ∀ ds x R, ¬ sp ds x R) : FnOk P w K mg base (L2N.CX P w) k f fd ps (spOf mg (SPc c sp)) :=
  fn_no fun _ _ _ z => h _ _ _ z.2
/-- classes by their names -/
def ccOf : List (Str × Addr) → Str → Addr
  | [], _ => 0
  | (c, a) :: l, d => if c = d then a else ccOf l d
omit [KC] in
theorem ccOf_hd {c : Str} {a : Addr} {l : List (Str × Addr)} : ccOf ((c, a) :: l) c = a := if_pos rfl
omit [KC] in
theorem ccOf_tl {c d : Str} {a b : Addr} {l : List (Str × Addr)} (h : ¬ c = d) (e : ccOf l d = b) : ccOf ((c, a) :: l) d = b := (if_neg h).trans e
end NL

/-! Terms and their reading, in plain words. -/
namespace NL
open PySem PySem.Spec L2
open PyProof.Rows hiding St

inductive Tm where
  | pc (n : Str) (k : Int) | parts (ts : List Tm) | times (t : Tm) (k : Int) | back (a b : Tm)
mutual
def tD : Tm → D
  | .pc n k => .obj "Piece" ["nail", "turns"] [.str n, .int k]
  | .parts ts => .obj "Parts" ["parts"] [.lst (tDs ts)]
  | .times t k => .obj "Times" ["body", "number"] [tD t, .int k]
  | .back a b => .obj "Back" ["one", "other"] [tD a, tD b]
def tDs : List Tm → List D
  | [] => []
  | t :: ts => tD t :: tDs ts
end
theorem tDs_map : ∀ ts : List Tm, tDs ts = ts.map tD
  | [] => rfl
  | t :: ts => by simp [tDs, tDs_map ts]
mutual
def dep : Tm → Nat
  | .pc _ _ => 1
  | .parts ts => 1 + deps ts
  | .times t _ => 1 + dep t
  | .back a b => 1 + max (dep a) (dep b)
def deps : List Tm → Nat
  | [] => 0
  | t :: ts => max (dep t) (deps ts)
end
mutual
def pcs : Tm → Nat
  | .pc _ _ => 1
  | .parts ts => pcss ts
  | .times t k => pcs t * k.natAbs
  | .back a b => 2 * (pcs a + pcs b)
def pcss : List Tm → Nat
  | [] => 0
  | t :: ts => pcs t + pcss ts
end
/-- so many times, or as many times the contrary -/
def timesC (c : List Pc) (k : Int) : List Pc := (List.replicate k.natAbs (if k < 0 then con c else c)).flatten
mutual
def ly : Tm → List Pc
  | .pc n k => [(n, k)]
  | .parts ts => lys ts
  | .times t k => timesC (ly t) k
  | .back a b => ly a ++ ly b ++ con (ly a) ++ con (ly b)
def lys : List Tm → List Pc
  | [] => []
  | t :: ts => ly t ++ lys ts
end
/-- a number's figures, and as it is written behind a part -/
def nt (k : Int) : List Nat := (Str.ofString (toString k)).cps.toList
def nmt (k : Int) : List Nat := if k = 1 then [] else nt k
mutual
def wr : Tm → List Nat
  | .pc n k => n.cps.toList ++ nmt k
  | .parts ts => wrs ts
  | .times t k => 40 :: wr t ++ 41 :: nmt k
  | .back a b => 91 :: wr a ++ 44 :: wr b ++ [93]
def wrs : List Tm → List Nat
  | [] => []
  | t :: ts => wr t ++ wrs ts
end
mutual
/-- no number is too wide, no list too long -/
def okT : Tm → Prop
  | .pc n k => n.length ≤ 1000 ∧ k.natAbs < 10 ^ 40
  | .parts ts => ts.length ≤ 1000000 ∧ okTs ts
  | .times t k => k.natAbs < 10 ^ 40 ∧ okT t
  | .back a b => okT a ∧ okT b
def okTs : List Tm → Prop
  | [] => True
  | t :: ts => okT t ∧ okTs ts
end
theorem timesC_len {c : List Pc} {k : Int} : (timesC c k).length = c.length * k.natAbs := by
  unfold timesC
  rw [List.length_flatten, List.map_replicate, List.sum_replicate_nat, Nat.mul_comm]
  split
  · rw [con_len]
  · rfl
mutual
theorem ly_len : ∀ t : Tm, (ly t).length = pcs t
  | .pc n k => by simp [ly, pcs]
  | .parts ts => by simp only [ly, pcs, lys_len ts]
  | .times t k => by simp only [ly, pcs, timesC_len, ly_len t]
  | .back a b => by
    simp only [ly, pcs, List.length_append, con_len, ly_len a, ly_len b]
    omega
theorem lys_len : ∀ ts : List Tm, (lys ts).length = pcss ts
  | [] => rfl
  | t :: ts => by simp only [lys, pcss, List.length_append, ly_len t, lys_len ts]
end
theorem okTs_mem : ∀ {ts : List Tm} {t : Tm}, okTs ts → t ∈ ts → okT t
  | [], t, _, h => by cases h
  | u :: ts, t, o, h => by
    simp only [okTs] at o
    rcases List.mem_cons.mp h with rfl | h
    · exact o.1
    · exact okTs_mem o.2 h
theorem deps_mem : ∀ {ts : List Tm} {t : Tm} {n : Nat}, deps ts ≤ n → t ∈ ts → dep t ≤ n
  | [], t, _, _, h => by cases h
  | u :: ts, t, n, o, h => by
    simp only [deps] at o
    rcases List.mem_cons.mp h with rfl | h
    · omega
    · exact deps_mem (by omega) h
theorem okTs_of : ∀ {ts : List Tm}, (∀ t ∈ ts, okT t) → okTs ts
  | [], _ => trivial
  | t :: ts, h => ⟨h t (by simp), okTs_of fun u hu => h u (by simp [hu])⟩
theorem deps_of : ∀ {ts : List Tm} {n : Nat}, (∀ t ∈ ts, dep t ≤ n) → deps ts ≤ n
  | [], _, _ => Nat.zero_le _
  | t :: ts, n, h => by
    have h1 := h t (by simp)
    have h2 : deps ts ≤ n := deps_of fun u hu => h u (List.mem_cons_of_mem _ hu)
    simp only [deps]
    omega
theorem pcss_sum : ∀ ts : List Tm, (ts.map fun t => (pcs t : Int)).sum = (pcss ts : Int)
  | [] => rfl
  | t :: ts => by
    simp only [List.map_cons, List.sum_cons, pcss_sum ts, pcss]
    omega
theorem pcss_mem : ∀ {ts : List Tm} {t : Tm}, t ∈ ts → pcs t ≤ pcss ts
  | [], t, h => by cases h
  | u :: ts, t, h => by
    simp only [pcss]
    rcases List.mem_cons.mp h with rfl | h
    · omega
    · have := pcss_mem h
      omega
theorem wrs_mem : ∀ {ts : List Tm} {t : Tm}, t ∈ ts → (wr t).length ≤ (wrs ts).length
  | [], t, h => by cases h
  | u :: ts, t, h => by
    simp only [wrs, List.length_append]
    rcases List.mem_cons.mp h with rfl | h
    · omega
    · have := wrs_mem h
      omega
theorem lys_flat : ∀ ts : List Tm, lys ts = (ts.map ly).flatten
  | [] => rfl
  | t :: ts => by simp [lys, lys_flat ts]
theorem wrs_flat : ∀ ts : List Tm, wrs ts = (ts.map wr).flatten
  | [] => rfl
  | t :: ts => by simp [wrs, wrs_flat ts]
/-- an object of one of the four classes -/
def TCs : List Str := ["Piece", "Parts", "Times", "Back"]
theorem tD_is {t : Tm} {m : Str} (h1 : m ∉ (["nail", "turns", "parts", "body", "number", "one", "other"] : List Str)) : isM ["Piece", "Parts", "Times", "Back"] m (tD t) := by
  simp only [List.mem_cons, List.not_mem_nil, or_false, not_or] at h1
  obtain ⟨a1, a2, a3, a4, a5, a6, a7⟩ := h1
  cases t with
  | pc n k => exact ⟨_, _, _, by rw [tD], by simp, by simp [a1, a2]⟩
  | parts ts => exact ⟨_, _, _, by rw [tD], by simp, by simp [a3]⟩
  | times t k => exact ⟨_, _, _, by rw [tD], by simp, by simp [a4, a5]⟩
  | back a b => exact ⟨_, _, _, by rw [tD], by simp, by simp [a6, a7]⟩
theorem tD_pieces {t : Tm} : isM ["Piece", "Parts", "Times", "Back"] "pieces" (tD t) := tD_is (by decide +kernel)
theorem tD_laid {t : Tm} : isM ["Piece", "Parts", "Times", "Back"] "laid" (tD t) := tD_is (by decide +kernel)
theorem tD_text {t : Tm} : isM ["Piece", "Parts", "Times", "Back"] "text" (tD t) := tD_is (by decide +kernel)
theorem tD_cord {t : Tm} : isM ["Piece", "Parts", "Times", "Back"] "cord" (tD t) := tD_is (by decide +kernel)
theorem nm1 : ¬ ("Parts" : Str) = "Piece" := by decide +kernel
theorem nm2 : ¬ ("Times" : Str) = "Piece" := by decide +kernel
theorem nm3 : ¬ ("Back" : Str) = "Piece" := by decide +kernel
theorem nm4 : ¬ ("Times" : Str) = "Parts" := by decide +kernel
theorem nm5 : ¬ ("Back" : Str) = "Parts" := by decide +kernel
theorem nm6 : ¬ ("Back" : Str) = "Times" := by decide +kernel
theorem tD_pc {t : Tm} {fs : List Str} {xs r : List D} (h : [tD t] = .obj "Piece" fs xs :: r) : ∃ n k, t = .pc n k := by
  cases t with
  | pc n k => exact ⟨n, k, rfl⟩
  | parts ts => rw [tD] at h; exact absurd (D.obj.inj (List.cons.inj h).1).1 nm1
  | times t k => rw [tD] at h; exact absurd (D.obj.inj (List.cons.inj h).1).1 nm2
  | back a b => rw [tD] at h; exact absurd (D.obj.inj (List.cons.inj h).1).1 nm3
theorem tD_pt {t : Tm} {fs : List Str} {xs r : List D} (h : [tD t] = .obj "Parts" fs xs :: r) : ∃ ts, t = .parts ts := by
  cases t with
  | pc n k => rw [tD] at h; exact absurd (D.obj.inj (List.cons.inj h).1).1.symm nm1
  | parts ts => exact ⟨ts, rfl⟩
  | times t k => rw [tD] at h; exact absurd (D.obj.inj (List.cons.inj h).1).1 nm4
  | back a b => rw [tD] at h; exact absurd (D.obj.inj (List.cons.inj h).1).1 nm5
theorem tD_ti {t : Tm} {fs : List Str} {xs r : List D} (h : [tD t] = .obj "Times" fs xs :: r) : ∃ u k, t = .times u k := by
  cases t with
  | pc n k => rw [tD] at h; exact absurd (D.obj.inj (List.cons.inj h).1).1.symm nm2
  | parts ts => rw [tD] at h; exact absurd (D.obj.inj (List.cons.inj h).1).1.symm nm4
  | times t k => exact ⟨t, k, rfl⟩
  | back a b => rw [tD] at h; exact absurd (D.obj.inj (List.cons.inj h).1).1 nm6
theorem tD_bk {t : Tm} {fs : List Str} {xs r : List D} (h : [tD t] = .obj "Back" fs xs :: r) : ∃ a b, t = .back a b := by
  cases t with
  | pc n k => rw [tD] at h; exact absurd (D.obj.inj (List.cons.inj h).1).1.symm nm3
  | parts ts => rw [tD] at h; exact absurd (D.obj.inj (List.cons.inj h).1).1.symm nm5
  | times t k => rw [tD] at h; exact absurd (D.obj.inj (List.cons.inj h).1).1.symm nm6
  | back a b => exact ⟨a, b, rfl⟩
theorem dep_pos : ∀ t : Tm, 1 ≤ dep t
  | .pc _ _ => by simp [dep]
  | .parts _ => by simp [dep]
  | .times _ _ => by simp [dep]
  | .back _ _ => by simp [dep]
theorem log2_40 {k : Int} (h : k.natAbs < 10 ^ 40) : k.natAbs.log2 < 1920 := by
  have : k.natAbs < 2 ^ 1920 := Nat.lt_of_lt_of_le h (by decide +kernel)
  exact PySem.Flt.log2_lt_of (by omega) this
theorem lt133 {k : Nat} (h : k < 10 ^ 40) : k < 2 ^ 134 := Nat.lt_of_lt_of_le h (by decide +kernel)
mutual
/-- the numbers of pieces have no more than so many bits -/
theorem pcs_lt : ∀ (t : Tm), okT t → pcs t < 2 ^ (140 * dep t)
  | .pc n k, _ => by
    simp only [pcs, dep]
    exact Nat.one_lt_two_pow (by omega)
  | .parts ts, h => by
    simp only [okT] at h
    have := pcss_lt ts (deps ts) h.2 (Nat.le_refl _)
    simp only [pcs, dep]
    have e : 140 * (1 + deps ts) = 140 + 140 * deps ts := by omega
    rw [e, Nat.pow_add]
    have h2 : ts.length + 1 ≤ 2 ^ 140 := Nat.le_trans (by omega : ts.length + 1 ≤ 1000001) (by decide +kernel)
    exact Nat.lt_of_lt_of_le this (Nat.mul_le_mul_right _ h2)
  | .times t k, h => by
    simp only [okT] at h
    have h1 := pcs_lt t h.2
    have h2 := lt133 h.1
    simp only [pcs, dep]
    have e : 140 * (1 + dep t) = 140 * dep t + 140 := by omega
    rw [e, Nat.pow_add]
    exact Nat.mul_lt_mul'' h1 (Nat.lt_of_lt_of_le h2 (Nat.pow_le_pow_right (by omega) (by omega)))
  | .back a b, h => by
    simp only [okT] at h
    have h1 := pcs_lt a h.1
    have h2 := pcs_lt b h.2
    simp only [pcs, dep]
    have e : 140 * (1 + max (dep a) (dep b)) = 140 * max (dep a) (dep b) + 140 := by omega
    rw [e, Nat.pow_add]
    have m1 : 2 ^ (140 * dep a) ≤ 2 ^ (140 * max (dep a) (dep b)) := Nat.pow_le_pow_right (by omega) (by omega)
    have m2 : 2 ^ (140 * dep b) ≤ 2 ^ (140 * max (dep a) (dep b)) := Nat.pow_le_pow_right (by omega) (by omega)
    have m3 : 2 ^ (140 * max (dep a) (dep b)) * 4 ≤ 2 ^ (140 * max (dep a) (dep b)) * 2 ^ 140 := Nat.mul_le_mul_left _ (by decide +kernel)
    omega
theorem pcss_lt : ∀ (ts : List Tm) (n : Nat), okTs ts → deps ts ≤ n → pcss ts < (ts.length + 1) * 2 ^ (140 * n)
  | [], n, _, _ => by
    simp only [pcss, List.length_nil]
    have := Nat.two_pow_pos (140 * n)
    omega
  | t :: ts, n, h, hd => by
    simp only [okTs] at h
    simp only [deps] at hd
    have h1 := pcs_lt t h.1
    have h2 := pcss_lt ts n h.2 (by omega)
    have m1 : 2 ^ (140 * dep t) ≤ 2 ^ (140 * n) := Nat.pow_le_pow_right (by omega) (by omega)
    simp only [pcss, List.length_cons]
    rw [Nat.add_mul (ts.length + 1) 1]
    omega
end
theorem mul_ok {t : Tm} {k : Int} {n : Nat} (h : okT t) (hk : k.natAbs < 10 ^ 40) (hd : dep t ≤ n) (hn : n ≤ 100) : CMulW ((pcs t : Nat) : Int) (if k < 0 then -k else k) := by
  have h1 := pcs_lt t h
  have h2 := lt133 hk
  refine wide_mul (a := 140 * dep t + 1) (b := 134) ?_ ?_ (by omega) (by omega) (by omega)
  · rw [Int.natAbs_natCast]
    exact Nat.lt_of_lt_of_le h1 (Nat.pow_le_pow_right (by omega) (by omega))
  · have : (if k < 0 then -k else k).natAbs = k.natAbs := by split <;> omega
    rw [this]
    exact h2
theorem two_ok {a b : Tm} {n : Nat} (h1 : okT a) (h2 : okT b) (hd1 : dep a ≤ n) (hd2 : dep b ≤ n) (hn : n ≤ 100) : CMulW 2 ((pcs a : Nat) + (pcs b : Nat) : Int) := by
  have h1 := pcs_lt a h1
  have h2 := pcs_lt b h2
  have m1 : 2 ^ (140 * dep a) ≤ 2 ^ (140 * n) := Nat.pow_le_pow_right (by omega) (by omega)
  have m2 : 2 ^ (140 * dep b) ≤ 2 ^ (140 * n) := Nat.pow_le_pow_right (by omega) (by omega)
  refine wide_mul (a := 2) (b := 140 * n + 1) (by decide) ?_ (by omega) (by omega) (by omega)
  rw [Nat.pow_succ]
  omega
theorem times_len {u : Tm} {k : Int} : (timesC (ly u) k).length = pcs u * k.natAbs := by rw [timesC_len, ly_len]
theorem abs_nat (k : Int) : (if k < 0 then -k else k) = (k.natAbs : Int) := by split <;> omega

/-! ### reading -/
def isDg (c : Nat) : Bool := decide (48 ≤ c ∧ c ≤ 57)
def figs (r : List Nat) : List Nat := r.takeWhile isDg
def less (r : List Nat) : Bool := decide (r.head? = some 45)
/-- the number that stands here and how many signs it has -/
def pAmt (r : List Nat) : Option (Int × Nat) :=
  let f := figs (if less r then r.drop 1 else r)
  if f = [] ∧ less r = false then some (1, 0)
  else if f = [] ∨ 30 < f.length then none
  else if f.head? = some 48 ∧ (less r = true ∨ 1 < f.length) then none
  else some (if less r then -(NumText.digitsVal f : Int) else (NumText.digitsVal f : Int), (if less r then 1 else 0) + f.length)
def stopR (r : List Nat) : Bool := decide (r = [] ∨ r.head? = some 41 ∨ r.head? = some 44 ∨ r.head? = some 93)
def pRow (part : List Nat → Option (Tm × Nat)) : Nat → List Nat → Option (List Tm × Nat)
  | 0, r => if stopR r then some ([], 0) else none
  | f + 1, r => if stopR r then some ([], 0) else match part r with
    | none => none
    | some (t, m) => match pRow part f (r.drop m) with
      | none => none
      | some (ts, k) => some (t :: ts, m + k)
/-- behind an opening sign: a row, the sign that is wanted, and on -/
def pIn (row : List Nat → Option (List Tm × Nat)) (c : Nat) (r : List Nat) : Option (List Tm × Nat) := match row r with
  | none => none
  | some (ts, m) => if (r.drop m).head? = some c then some (ts, m + 1) else none
def pPart : Nat → List Nat → Option (Tm × Nat)
  | n, r => match r with
    | [] => none
    | a :: r => if 97 ≤ a ∧ a ≤ 122 then match pAmt r with
        | none => none
        | some (k, m) => some (.pc (tx [a]) k, 1 + m)
      else match n with
      | 0 => none
      | n + 1 => if a = 40 then match pIn (fun r => pRow (pPart n) r.length r) 41 r with
          | none => none
          | some (ts, m) => match pAmt (r.drop m) with
            | none => none
            | some (k, j) => some (.times (.parts ts) k, 1 + m + j)
        else if a = 91 then match pIn (fun r => pRow (pPart n) r.length r) 44 r with
          | none => none
          | some (ts, m) => match pIn (fun r => pRow (pPart n) r.length r) 93 (r.drop m) with
            | none => none
            | some (us, j) => some (.back (.parts ts) (.parts us), 1 + m + j)
        else none
def parse (s : List Nat) : Option Tm := match pRow (pPart 30) s.length s with
  | none => none
  | some (ts, m) => if s.drop m = [] then some (.parts ts) else none
theorem figs_dg : ∀ {r : List Nat}, NumText.AllDigits (figs r)
  | [] => fun c hc => by cases hc
  | a :: r => fun c hc => by
    unfold figs at hc
    rw [List.takeWhile_cons] at hc
    split at hc
    · rename_i h
      rcases List.mem_cons.mp hc with rfl | hc
      · simpa [isDg] using h
      · exact figs_dg c hc
    · cases hc
theorem figs_len {r : List Nat} : (figs r).length ≤ r.length := (List.takeWhile_sublist _).length_le
theorem digitsVal_lt {f : List Nat} (h : NumText.AllDigits f) : NumText.digitsVal f < 10 ^ f.length := by
  have : ∀ (f : List Nat) (a : Nat), NumText.AllDigits f → f.foldl (fun acc c => acc * 10 + (c - 48)) a < (a + 1) * 10 ^ f.length := by
    intro f
    induction f with
    | nil => intro a _; simp
    | cons c f ih =>
      intro a h
      have h1 := ih (a * 10 + (c - 48)) h.tail
      have h2 := h.head
      simp only [List.foldl_cons, List.length_cons, Nat.pow_succ]
      refine Nat.lt_of_lt_of_le h1 ?_
      rw [Nat.mul_comm (10 ^ f.length) 10, ← Nat.mul_assoc]
      exact Nat.mul_le_mul_right _ (by omega)
  have z := this f 0 h
  rw [Nat.zero_add, Nat.one_mul] at z
  exact z
theorem pAmt_ok {r : List Nat} {k : Int} {m : Nat} (h : pAmt r = some (k, m)) : k.natAbs < 10 ^ 40 ∧ m ≤ r.length := by
  have key : ∀ (l : Bool) (f : List Nat), NumText.AllDigits f → (if l then 1 else 0) + f.length ≤ r.length ∨ f = [] → (if f = [] ∧ l = false then some ((1 : Int), 0) else if f = [] ∨ 30 < f.length then none
      else if f.head? = some 48 ∧ (l = true ∨ 1 < f.length) then none else some (if l then -(NumText.digitsVal f : Int) else (NumText.digitsVal f : Int), (if l then 1 else 0) + f.length)) = some (k, m) → k.natAbs < 10 ^ 40 ∧ m ≤ r.length := by
    intro l f hf hl h
    by_cases c1 : f = [] ∧ l = false
    · rw [if_pos c1] at h
      simp only [Option.some.injEq, Prod.mk.injEq] at h
      obtain ⟨rfl, rfl⟩ := h
      exact ⟨by decide, Nat.zero_le _⟩
    rw [if_neg c1] at h
    by_cases c2 : f = [] ∨ 30 < f.length
    · rw [if_pos c2] at h
      cases h
    rw [if_neg c2] at h
    split at h
    · cases h
    simp only [Option.some.injEq, Prod.mk.injEq] at h
    obtain ⟨rfl, rfl⟩ := h
    simp only [not_or, Nat.not_lt] at c2
    have hv := digitsVal_lt hf
    have hb : 10 ^ f.length ≤ 10 ^ 40 := Nat.pow_le_pow_right (by omega) (by omega)
    refine ⟨?_, hl.resolve_right c2.1⟩
    split <;> omega
  refine key (less r) _ figs_dg ?_ h
  have hl := figs_len (r := if less r then r.drop 1 else r)
  cases hz : less r with
  | true =>
    rw [hz] at hl
    have : r ≠ [] := fun z => by rw [z] at hz; simp [less] at hz
    have := List.length_pos_iff.mpr this
    simp only [if_true, List.length_drop] at hl ⊢
    left
    omega
  | false =>
    rw [hz] at hl
    simp only [Bool.false_eq_true, if_false] at hl ⊢
    left
    omega
theorem pRow_ok {p : List Nat → Option (Tm × Nat)} {B d : Nat} (hp : ∀ r t m, r.length ≤ B → p r = some (t, m) → okT t ∧ dep t ≤ d ∧ 1 ≤ m ∧ m ≤ r.length) :
    ∀ (L : Nat) (r : List Nat) (ts : List Tm) (m : Nat), r.length ≤ B → pRow p L r = some (ts, m) → okTs ts ∧ deps ts ≤ d ∧ ts.length ≤ m ∧ m ≤ r.length
  | 0, r, ts, m, hr, h => by
    unfold pRow at h
    split at h
    · cases h
      exact ⟨trivial, Nat.zero_le _, Nat.le_refl _, Nat.zero_le _⟩
    · cases h
  | L + 1, r, ts, m, hr, h => by
    unfold pRow at h
    split at h
    · cases h
      exact ⟨trivial, Nat.zero_le _, Nat.le_refl _, Nat.zero_le _⟩
    · split at h
      · cases h
      · rename_i t j e
        obtain ⟨a1, a2, a3, a4⟩ := hp r t j hr e
        split at h
        · cases h
        · rename_i us k e2
          have hl : (r.drop j).length = r.length - j := List.length_drop
          obtain ⟨b1, b2, b3, b4⟩ := pRow_ok hp L (r.drop j) us k (by omega) e2
          cases h
          refine ⟨⟨a1, b1⟩, by simp only [deps]; omega, by simp only [List.length_cons]; omega, by omega⟩
theorem pIn_ok {row : List Nat → Option (List Tm × Nat)} {c : Nat} {r : List Nat} {ts : List Tm} {m : Nat} (h : pIn row c r = some (ts, m)) : ∃ j, row r = some (ts, j) ∧ m = j + 1 ∧ (r.drop j).head? = some c := by
  unfold pIn at h
  split at h
  · cases h
  · rename_i us j e
    split at h
    · rename_i hc
      cases h
      exact ⟨j, e, rfl, hc⟩
    · cases h
theorem drop_head {r : List Nat} {j c : Nat} (h : (r.drop j).head? = some c) : j + 1 ≤ r.length := by
  rcases Nat.lt_or_ge j r.length with h1 | h1
  · omega
  · rw [List.drop_eq_nil_of_le h1] at h
    cases h
theorem pPart_ok : ∀ (n : Nat) (r : List Nat) (t : Tm) (m : Nat), r.length ≤ 1000000 → pPart n r = some (t, m) → okT t ∧ dep t ≤ 2 * n + 1 ∧ 1 ≤ m ∧ m ≤ r.length := by
  intro n
  have one : ∀ (n a : Nat) (r : List Nat) (t : Tm) (m : Nat), (match pAmt r with | none => none | some (k, m) => some (Tm.pc (tx [a]) k, 1 + m)) = some (t, m) → okT t ∧ dep t ≤ 2 * n + 1 ∧ 1 ≤ m ∧ m ≤ (a :: r).length := by
    intro n a r t m h
    split at h
    · cases h
    · rename_i k j e
      cases h
      obtain ⟨h1, h2⟩ := pAmt_ok e
      refine ⟨⟨by rw [tx_len]; simp, h1⟩, by simp only [dep]; omega, by omega, by simp only [List.length_cons]; omega⟩
  induction n with
  | zero =>
    intro r t m hr h
    cases r with
    | nil => unfold pPart at h; cases h
    | cons a r =>
      unfold pPart at h
      simp only at h
      split at h
      · exact one 0 a r t m h
      · cases h
  | succ n ih =>
    intro r t m hr h
    cases r with
    | nil => unfold pPart at h; cases h
    | cons a r =>
      have hr' : r.length ≤ 1000000 := by simp only [List.length_cons] at hr; omega
      have rows := fun (q : List Nat) (us : List Tm) (j : Nat) (hq : q.length ≤ 1000000) => pRow_ok (p := pPart n) (B := 1000000) (d := 2 * n + 1) ih q.length q us j hq
      unfold pPart at h
      simp only at h
      split at h
      · exact one (n + 1) a r t m h
      split at h
      · split at h
        · cases h
        · rename_i ts j e
          obtain ⟨j', e1, rfl, e2⟩ := pIn_ok e
          obtain ⟨b1, b2, b3, b4⟩ := rows r ts j' hr' e1
          have := drop_head e2
          split at h
          · cases h
          · rename_i k i e3
            cases h
            obtain ⟨h1, h2⟩ := pAmt_ok e3
            rw [List.length_drop] at h2
            refine ⟨⟨h1, by omega, b1⟩, by simp only [dep]; omega, by omega, by simp only [List.length_cons]; omega⟩
      split at h
      · split at h
        · cases h
        · rename_i ts j e
          obtain ⟨j', e1, rfl, e2⟩ := pIn_ok e
          obtain ⟨b1, b2, b3, b4⟩ := rows r ts j' hr' e1
          have := drop_head e2
          split at h
          · cases h
          · rename_i us i e3
            obtain ⟨i', e4, rfl, e5⟩ := pIn_ok e3
            have hl : (r.drop (j' + 1)).length = r.length - (j' + 1) := List.length_drop
            obtain ⟨c1, c2, c3, c4⟩ := rows _ us i' (by omega) e4
            have := drop_head e5
            cases h
            refine ⟨⟨⟨by omega, b1⟩, by omega, c1⟩, by simp only [dep]; omega, by omega, by simp only [List.length_cons]; omega⟩
      · cases h
theorem parse_ok {s : List Nat} {t : Tm} (hs : s.length ≤ 1000000) (h : parse s = some t) : ∃ ts, t = .parts ts ∧ okT t ∧ dep t ≤ 62 := by
  unfold parse at h
  split at h
  · cases h
  · rename_i ts m e
    split at h
    · cases h
      obtain ⟨b1, b2, b3, b4⟩ := pRow_ok (p := pPart 30) (B := 1000000) (d := 61) (fun r t m => pPart_ok 30 r t m) _ _ ts m hs e
      exact ⟨ts, rfl, ⟨by omega, b1⟩, by simp only [dep]; omega⟩
    · cases h

/-! ### numbers as texts -/
theorem nt_nat (m : Nat) : nt (m : Int) = (Nat.toDigits 10 m).map Char.toNat := PySem.W.KIN.signs_num m
theorem nt_neg {m : Nat} (h : 0 < m) : nt (-(m : Int)) = 45 :: nt (m : Int) := by
  obtain ⟨k, rfl⟩ : ∃ k, m = k + 1 := ⟨m - 1, by omega⟩
  have e : (-((k + 1 : Nat) : Int)) = Int.negSucc k := by omega
  rw [e, nt_nat]
  unfold nt
  rw [PyProof.Rows.signs_ofString]
  show ("-" ++ Nat.repr (k + 1)).toList.map Char.toNat = _
  rw [String.toList_append, List.map_append, Nat.toList_repr]
  rfl
theorem nt_dg (m : Nat) : NumText.AllDigits (nt (m : Int)) := by
  intro c hc
  rw [nt_nat] at hc
  obtain ⟨ch, hch, e⟩ := List.mem_map.mp hc
  have r := PyProof.Rows.digit_range (Nat.isDigit_of_mem_toDigits (by decide) (by decide) hch)
  rw [← e]
  exact r
theorem nt_val (m : Nat) : NumText.digitsVal (nt (m : Int)) = m := by rw [nt_nat, PySem.W.KIN.val_back]
theorem nt_head : ∀ (m : Nat), 0 < m → ∃ a r, nt (m : Int) = a :: r ∧ 49 ≤ a ∧ a ≤ 57 := by
  intro m
  induction m using Nat.strongRecOn with
  | _ m ih =>
    intro h0
    rw [nt_nat]
    rcases Nat.lt_or_ge m 10 with h | h
    · rw [Nat.toDigits_of_lt_base h]
      refine ⟨_, _, rfl, ?_⟩
      have : ∀ m : Fin 10, 0 < m.val → 49 ≤ (Nat.digitChar m.val).toNat ∧ (Nat.digitChar m.val).toNat ≤ 57 := by decide
      exact this ⟨m, h⟩ h0
    · have t : Nat.toDigits 10 (m / 10) ++ Nat.toDigits 10 (m % 10) = Nat.toDigits 10 (10 * (m / 10) + m % 10) := Nat.toDigits_append_toDigits (by decide) (by omega) (by omega)
      rw [Nat.div_add_mod] at t
      obtain ⟨a, r, e, ha⟩ := ih (m / 10) (by omega) (by omega)
      rw [nt_nat] at e
      refine ⟨a, r ++ (Nat.toDigits 10 (m % 10)).map Char.toNat, ?_, ha⟩
      rw [← t, List.map_append, e]
      rfl
theorem nt_zero : nt 0 = [48] := by decide +kernel
theorem nt_len : ∀ (j m : Nat), m < 10 ^ (j + 1) → (nt (m : Int)).length ≤ j + 1 := by
  intro j
  induction j with
  | zero =>
    intro m h
    rw [nt_nat, Nat.toDigits_of_lt_base (by simpa using h)]
    exact Nat.le_refl _
  | succ j ih =>
    intro m h
    rcases Nat.lt_or_ge m 10 with h1 | h1
    · rw [nt_nat, Nat.toDigits_of_lt_base h1]
      simp
    · have t : Nat.toDigits 10 (m / 10) ++ Nat.toDigits 10 (m % 10) = Nat.toDigits 10 (10 * (m / 10) + m % 10) := Nat.toDigits_append_toDigits (by decide) (by omega) (by omega)
      rw [Nat.div_add_mod] at t
      have := ih (m / 10) (by rw [Nat.pow_succ] at h; omega)
      rw [nt_nat, List.length_map] at this
      rw [nt_nat, ← t, List.length_map, List.length_append, Nat.toDigits_of_lt_base (by omega : m % 10 < 10)]
      simpa using this
theorem nt_ne (m : Nat) : nt (m : Int) ≠ [] := by
  rcases Nat.eq_zero_or_pos m with rfl | h
  · rw [show ((0 : Nat) : Int) = 0 from rfl, nt_zero]
    intro z
    cases z
  · obtain ⟨a, r, e, _⟩ := nt_head m h
    rw [e]
    intro z
    cases z
theorem nmt_len {k : Int} (h : k.natAbs < 10 ^ 40) : (nmt k).length ≤ 41 := by
  unfold nmt
  split
  · exact Nat.zero_le _
  · rcases (by omega : k < 0 ∨ 0 ≤ k) with hn | hp
    · obtain ⟨m, rfl⟩ : ∃ m : Nat, k = -(m : Int) := ⟨k.natAbs, by omega⟩
      have hl := nt_len 39 m (by simpa using h)
      rw [nt_neg (by omega), List.length_cons]
      omega
    · obtain ⟨m, rfl⟩ : ∃ m : Nat, k = (m : Int) := ⟨k.natAbs, by omega⟩
      have hl := nt_len 39 m (by simpa using h)
      omega
theorem str_tx (n : Str) (l : List Nat) : n ++ tx l = tx (n.cps.toList ++ l) := by
  rw [← tx_app, ← tx_of]
theorem join_wr : ∀ ts : List Tm, Txt.join (tx []) (ts.map fun t => tx (wr t)) = tx (wrs ts) := fun ts => by
  rw [join_nil, wrs_flat, List.map_map]
  congr 2
theorem wr_sum : ∀ ts : List Tm, ((ts.map fun t => tx (wr t)).map (·.length)).sum = (wrs ts).length
  | [] => rfl
  | t :: ts => by
    simp only [List.map_cons, List.sum_cons, wr_sum ts, wrs, List.length_append, tx_len]
/-- no figure stands here; nor a minus -/
def sepD (r : List Nat) : Prop := ∀ a, r.head? = some a → ¬ (48 ≤ a ∧ a ≤ 57)
def sepM (r : List Nat) : Prop := sepD r ∧ r.head? ≠ some 45
theorem figs_app : ∀ {f r : List Nat}, NumText.AllDigits f → sepD r → figs (f ++ r) = f
  | [], [], _, _ => rfl
  | [], a :: r, _, h => by
    have := h a rfl
    unfold figs
    rw [List.nil_append, List.takeWhile_cons, if_neg]
    simpa [isDg] using this
  | a :: f, r, hf, h => by
    have h1 := hf.head
    have h2 := figs_app hf.tail h
    unfold figs at h2 ⊢
    rw [List.cons_append, List.takeWhile_cons, if_pos (by simpa [isDg] using h1), h2]
theorem pAmt_none {r : List Nat} (h : sepM r) : pAmt r = some (1, 0) := by
  have hl : less r = false := by simpa [less] using h.2
  have hf : figs r = [] := by simpa using figs_app (f := []) (fun _ z => by cases z) h.1
  unfold pAmt
  simp [hl, hf]
theorem pAmt_nt {k : Int} {r : List Nat} (hk : k.natAbs < 10 ^ 30) (h : sepD r) : pAmt (nt k ++ r) = some (k, (nt k).length) := by
  rcases (by omega : k < 0 ∨ 0 ≤ k) with hn | hp
  · obtain ⟨m, rfl⟩ : ∃ m : Nat, k = -(m : Int) := ⟨k.natAbs, by omega⟩
    have hm : 0 < m := by omega
    have hl := nt_len 29 m (by simpa using hk)
    obtain ⟨a, q, e, h1, h2⟩ := nt_head m hm
    rw [nt_neg hm]
    have hz : less (45 :: (nt (m : Int) ++ r)) = true := by simp [less]
    have hf : figs (nt (m : Int) ++ r) = nt (m : Int) := figs_app (nt_dg m) h
    have hv := nt_val m
    unfold pAmt
    simp only [hz, if_true, List.cons_append, List.drop_succ_cons, List.drop_zero, hf, hv]
    rw [if_neg (fun z => by cases z.2), if_neg (fun z => by rcases z with z | z; exact nt_ne m z; omega), if_neg (fun z => by rw [e] at z; simp at z; omega)]
    simp only [List.length_cons]
    congr 2
    omega
  · obtain ⟨m, rfl⟩ : ∃ m : Nat, k = (m : Int) := ⟨k.natAbs, by omega⟩
    have hl := nt_len 29 m (by simpa using hk)
    have hf : figs (nt (m : Int) ++ r) = nt (m : Int) := figs_app (nt_dg m) h
    have hv := nt_val m
    have hd : ∀ a, (nt (m : Int) ++ r).head? = some a → 48 ≤ a ∧ a ≤ 57 := fun a ha => by
      cases q : nt (m : Int) with
      | nil => exact absurd q (nt_ne m)
      | cons b t =>
        rw [q] at ha
        cases ha
        exact nt_dg m a (by rw [q]; exact List.mem_cons_self)
    have hz : less (nt (m : Int) ++ r) = false := by
      unfold less
      refine decide_eq_false fun z => ?_
      have := hd 45 z
      omega
    unfold pAmt
    simp only [hz, Bool.false_eq_true, if_false, hf, hv]
    rw [if_neg (fun z => nt_ne m z.1), if_neg (fun z => by rcases z with z | z; exact nt_ne m z; omega), if_neg]
    · simp
    · rintro ⟨h1, h2⟩
      rcases Nat.eq_zero_or_pos m with rfl | h0
      · rw [show ((0 : Nat) : Int) = 0 from rfl, nt_zero] at h2
        simp at h2
      · obtain ⟨a, q, e, h3, h4⟩ := nt_head m h0
        rw [e] at h1
        simp at h1
        omega

/-! ### texts of terms -/
def NumW (u : List Nat) (k : Int) : Prop := (u = [] ∧ k = 1) ∨ (u = nt k ∧ k.natAbs < 10 ^ 30)
theorem pAmt_w {u : List Nat} {k : Int} {r : List Nat} (h : NumW u k) (hr : sepM r) : pAmt (u ++ r) = some (k, u.length) := by
  rcases h with ⟨rfl, rfl⟩ | ⟨rfl, h⟩
  · exact pAmt_none hr
  · exact pAmt_nt h hr.1
/-- a row of parts, brackets at most so deep, and its text -/
inductive GR : Nat → List Tm → List Nat → Prop where
  | nil {n} : GR n [] []
  | pc {n a u k ts w} : 97 ≤ a → a ≤ 122 → NumW u k → GR n ts w → GR n (.pc (tx [a]) k :: ts) (a :: (u ++ w))
  | times {n ss v u k ts w} : GR n ss v → NumW u k → GR (n + 1) ts w → GR (n + 1) (.times (.parts ss) k :: ts) (40 :: (v ++ 41 :: (u ++ w)))
  | back {n ss v ss' v' ts w} : GR n ss v → GR n ss' v' → GR (n + 1) ts w → GR (n + 1) (.back (.parts ss) (.parts ss') :: ts) (91 :: (v ++ 44 :: (v' ++ 93 :: w)))
theorem stop_sep {r : List Nat} (h : stopR r = true) : sepM r := by
  unfold stopR at h
  have h := of_decide_eq_true h
  rcases h with rfl | h | h | h
  · exact ⟨fun a z => (by cases z), fun z => (by cases z)⟩
  all_goals
    refine ⟨fun a z => ?_, fun z => ?_⟩
    · rw [h] at z
      cases z
      decide
    · rw [h] at z
      cases z
theorem GR.sep {n : Nat} {ts : List Tm} {w r : List Nat} (g : GR n ts w) (hr : stopR r = true) : sepM (w ++ r) := by
  cases g with
  | nil => exact stop_sep hr
  | pc h1 h2 _ _ => exact ⟨fun a z => (by cases z; omega), fun z => (by cases z; omega)⟩
  | times _ _ _ => exact ⟨fun a z => (by cases z; omega), fun z => (by cases z)⟩
  | back _ _ _ => exact ⟨fun a z => (by cases z; omega), fun z => (by cases z)⟩
theorem stop_c (c : Nat) (h : c = 41 ∨ c = 44 ∨ c = 93) {r : List Nat} : stopR (c :: r) = true := by
  unfold stopR
  refine decide_eq_true ?_
  rcases h with rfl | rfl | rfl <;> simp
theorem nstop {a : Nat} {r : List Nat} (h : a ≠ 41 ∧ a ≠ 44 ∧ a ≠ 93) : stopR (a :: r) = false := by
  unfold stopR
  refine decide_eq_false ?_
  simp [h.1, h.2.1, h.2.2]
theorem GR.row {n : Nat} {ts : List Tm} {w : List Nat} (g : GR n ts w) : ∀ (r : List Nat) (L : Nat), stopR r = true → (w ++ r).length ≤ L → pRow (pPart n) L (w ++ r) = some (ts, w.length) := by
  induction g with
  | nil =>
    intro r L hr hL
    cases L with
    | zero => simp [pRow, hr]
    | succ L => simp [pRow, hr]
  | @pc n a u k ts w h1 h2 hu g ih =>
    intro r L hr hL
    cases L with
    | zero => simp at hL
    | succ L =>
      have e : pPart n (a :: (u ++ (w ++ r))) = some (.pc (tx [a]) k, 1 + u.length) := by
        unfold pPart
        simp only [h1, h2, and_self, if_true, pAmt_w hu (g.sep hr)]
      have e2 : (a :: (u ++ (w ++ r))).drop (1 + u.length) = w ++ r := by
        rw [Nat.add_comm, List.drop_succ_cons, List.drop_left]
      have e3 := ih r L hr (by simp at hL ⊢; omega)
      rw [List.cons_append, List.append_assoc]
      unfold pRow
      simp only [nstop (a := a) (r := u ++ (w ++ r)) (by omega), Bool.false_eq_true, if_false, e, e2, e3]
      simp
      omega
  | @times n ss v u k ts w g1 hu g2 ih1 ih2 =>
    intro r L hr hL
    cases L with
    | zero => simp at hL
    | succ L =>
      have e0 := ih1 (41 :: (u ++ (w ++ r))) (v ++ 41 :: (u ++ (w ++ r))).length (stop_c 41 (by simp)) (Nat.le_refl _)
      have e : pPart (n + 1) (40 :: (v ++ 41 :: (u ++ (w ++ r)))) = some (.times (.parts ss) k, 1 + (v.length + 1) + u.length) := by
        unfold pPart
        have ep : pIn (fun r => pRow (pPart n) r.length r) 41 (v ++ 41 :: (u ++ (w ++ r))) = some (ss, v.length + 1) := by
          unfold pIn
          simp only [e0, List.drop_left, List.head?_cons, if_true]
        have ed : (v ++ 41 :: (u ++ (w ++ r))).drop (v.length + 1) = u ++ (w ++ r) := by
          rw [← List.drop_drop, List.drop_left, List.drop_succ_cons, List.drop_zero]
        simp only [ep, ed, pAmt_w hu (g2.sep hr)]
        simp
      have e2 : (40 :: (v ++ 41 :: (u ++ (w ++ r)))).drop (1 + (v.length + 1) + u.length) = w ++ r := by
        have : 1 + (v.length + 1) + u.length = (v.length + (1 + u.length)) + 1 := by omega
        rw [this, List.drop_succ_cons, ← List.drop_drop, List.drop_left, Nat.add_comm 1, List.drop_succ_cons, List.drop_left]
      have e3 := ih2 r L hr (by simp at hL ⊢; omega)
      have ea : 40 :: (v ++ 41 :: (u ++ w)) ++ r = 40 :: (v ++ 41 :: (u ++ (w ++ r))) := by simp
      rw [ea]
      unfold pRow
      simp only [nstop (a := 40) (r := v ++ 41 :: (u ++ (w ++ r))) (by omega), Bool.false_eq_true, if_false, e, e2, e3]
      simp
      omega
  | @back n ss v ss' v' ts w g1 g2 g3 ih1 ih2 ih3 =>
    intro r L hr hL
    cases L with
    | zero => simp at hL
    | succ L =>
      have e0 := ih1 (44 :: (v' ++ 93 :: (w ++ r))) (v ++ 44 :: (v' ++ 93 :: (w ++ r))).length (stop_c 44 (by simp)) (Nat.le_refl _)
      have e1 := ih2 (93 :: (w ++ r)) (v' ++ 93 :: (w ++ r)).length (stop_c 93 (by simp)) (Nat.le_refl _)
      have e : pPart (n + 1) (91 :: (v ++ 44 :: (v' ++ 93 :: (w ++ r)))) = some (.back (.parts ss) (.parts ss'), 1 + (v.length + 1) + (v'.length + 1)) := by
        unfold pPart
        have ep : pIn (fun r => pRow (pPart n) r.length r) 44 (v ++ 44 :: (v' ++ 93 :: (w ++ r))) = some (ss, v.length + 1) := by
          unfold pIn
          simp only [e0, List.drop_left, List.head?_cons, if_true]
        have ed : (v ++ 44 :: (v' ++ 93 :: (w ++ r))).drop (v.length + 1) = v' ++ 93 :: (w ++ r) := by
          rw [← List.drop_drop, List.drop_left, List.drop_succ_cons, List.drop_zero]
        have eq : pIn (fun r => pRow (pPart n) r.length r) 93 (v' ++ 93 :: (w ++ r)) = some (ss', v'.length + 1) := by
          unfold pIn
          simp only [e1, List.drop_left, List.head?_cons, if_true]
        simp only [ep, ed, eq]
        simp
      have e2 : (91 :: (v ++ 44 :: (v' ++ 93 :: (w ++ r)))).drop (1 + (v.length + 1) + (v'.length + 1)) = w ++ r := by
        have : 1 + (v.length + 1) + (v'.length + 1) = (v.length + (1 + (v'.length + 1))) + 1 := by omega
        rw [this, List.drop_succ_cons, ← List.drop_drop, List.drop_left, Nat.add_comm 1, List.drop_succ_cons, ← List.drop_drop, List.drop_left, List.drop_succ_cons, List.drop_zero]
      have e3 := ih3 r L hr (by simp at hL ⊢; omega)
      have ea : 91 :: (v ++ 44 :: (v' ++ 93 :: w)) ++ r = 91 :: (v ++ 44 :: (v' ++ 93 :: (w ++ r))) := by simp
      rw [ea]
      unfold pRow
      simp only [nstop (a := 91) (r := v ++ 44 :: (v' ++ 93 :: (w ++ r))) (by omega), Bool.false_eq_true, if_false, e, e2, e3]
      simp
      omega
theorem GR.parse {ts : List Tm} {w : List Nat} (g : GR 30 ts w) : parse w = some (.parts ts) := by
  have := g.row [] w.length (by simp [stopR]) (by simp)
  rw [List.append_nil] at this
  unfold NL.parse
  rw [this]
  simp
theorem GR.up {n : Nat} {ts : List Tm} {w : List Nat} (g : GR n ts w) : ∀ m, n ≤ m → GR m ts w := by
  induction g with
  | nil => exact fun m _ => .nil
  | pc h1 h2 hu g ih => exact fun m h => .pc h1 h2 hu (ih m h)
  | times g1 hu g2 ih1 ih2 =>
    intro m h
    obtain ⟨j, rfl⟩ : ∃ j, m = j + 1 := ⟨m - 1, by omega⟩
    exact .times (ih1 j (by omega)) hu (ih2 _ h)
  | back g1 g2 g3 ih1 ih2 ih3 =>
    intro m h
    obtain ⟨j, rfl⟩ : ∃ j, m = j + 1 := ⟨m - 1, by omega⟩
    exact .back (ih1 j (by omega)) (ih2 j (by omega)) (ih3 _ h)
theorem GR.app {n : Nat} {ts us : List Tm} {w v : List Nat} (g : GR n ts w) (h : GR n us v) : GR n (ts ++ us) (w ++ v) := by
  induction g with
  | nil => exact h
  | pc h1 h2 hu g ih =>
    rw [List.cons_append, List.cons_append, List.append_assoc]
    exact .pc h1 h2 hu (ih h)
  | @times n ss v0 u k ts w g1 hu g2 ih1 ih2 =>
    have : 40 :: (v0 ++ 41 :: (u ++ w)) ++ v = 40 :: (v0 ++ 41 :: (u ++ (w ++ v))) := by simp
    rw [this, List.cons_append]
    exact .times g1 hu (ih2 h)
  | @back n ss v0 ss' v1 ts w g1 g2 g3 ih1 ih2 ih3 =>
    have : 91 :: (v0 ++ 44 :: (v1 ++ 93 :: w)) ++ v = 91 :: (v0 ++ 44 :: (v1 ++ 93 :: (w ++ v))) := by simp
    rw [this, List.cons_append]
    exact .back g1 g2 (ih3 h)
/-- a reader at a place of its text -/
def rD (s : List Nat) (i : Nat) : D := .obj "Reader" ["signs", "at"] [.str (tx s), .int (i : Nat)]
def rC (s : List Nat) (i : Nat) : Cn := .obj "Reader" ["signs", "at"] [.str (tx s), .int (i : Nat)]
theorem r_sign {s : List Nat} {i : Nat} : isM ["Reader"] "sign" (rD s i) := ⟨_, _, _, rfl, by simp, by decide +kernel⟩
theorem r_sign' {s : List Nat} {i : Nat} : isM ["Reader"] "sign" (.obj "Reader" ["signs", "at"] [.str (tx s), .int (i : Nat)]) := r_sign
theorem rC_eq (s : List Nat) (i : Nat) : rC s i = .obj "Reader" ["signs", "at"] [.str (tx s), .int (i : Nat)] := rfl
theorem cut_one {s : List Nat} {i : Nat} : cut s (some (i : Int)) (some ((i : Int) + 1)) = (s.drop i).take 1 := by
  rw [cut_fromTo (by omega) (by omega)]
  have e1 : (((i : Int) + 1).toNat) = i + 1 := by omega
  have e2 : ((i : Int).toNat) = i := by omega
  rw [e1, e2, List.drop_take]
  congr 1
  omega
theorem one_head {r : List Nat} {a : Nat} : r.take 1 = [a] ↔ r.head? = some a := by
  cases r with
  | nil => simp
  | cons b r => simp
theorem dg_mem {a : Nat} : decide (a ∈ [48, 49, 50, 51, 52, 53, 54, 55, 56, 57]) = isDg a := by
  unfold isDg
  rw [Bool.eq_iff_iff, decide_eq_true_eq, decide_eq_true_eq]
  simp only [List.mem_cons, List.not_mem_nil, or_false]
  omega
theorem figs_cons {a : Nat} {r : List Nat} : figs (a :: r) = if isDg a then a :: figs r else [] := by
  unfold figs
  rw [List.takeWhile_cons]
theorem drop_cons {s : List Nat} {j a : Nat} {r : List Nat} (h : s.drop j = a :: r) : j < s.length ∧ s.drop (j + 1) = r ∧ s[j]? = some a := by
  have h1 : j < s.length := by
    rcases Nat.lt_or_ge j s.length with z | z
    · exact z
    · rw [List.drop_eq_nil_of_le z] at h; cases h
  refine ⟨h1, ?_, ?_⟩
  · rw [← List.drop_drop, h]; rfl
  · rw [← List.head?_drop, h]; rfl
theorem drop_nil {s : List Nat} {j : Nat} (h : s.drop j = []) (hj : j ≤ s.length) : j = s.length := by
  have := List.drop_eq_nil_iff.mp h
  omega
/-- what figures behind an open minus or not tell -/
def amtV (l : Bool) (f : List Nat) : Option Int :=
  if f = [] ∧ l = false then some 1
  else if f = [] ∨ 30 < f.length then none
  else if f.head? = some 48 ∧ (l = true ∨ 1 < f.length) then none
  else some (if l then -(NumText.digitsVal f : Int) else (NumText.digitsVal f : Int))
theorem amt_one : amtV false [] = some 1 := rfl
theorem amt_no : amtV true [] = none := rfl
theorem amt_wide {l : Bool} {f : List Nat} (h0 : f ≠ []) (h : 30 < f.length) : amtV l f = none := by
  unfold amtV
  rw [if_neg (fun z => h0 z.1), if_pos (Or.inr h)]
theorem amt_bad {l : Bool} {f : List Nat} (h0 : f ≠ []) (h : ¬ 30 < f.length) (h1 : f.head? = some 48) (h2 : l = true ∨ 1 < f.length) : amtV l f = none := by
  unfold amtV
  rw [if_neg (fun z => h0 z.1), if_neg (fun z => z.elim h0 h), if_pos ⟨h1, h2⟩]
theorem amt_val {l : Bool} {f : List Nat} (h0 : f ≠ []) (h : ¬ 30 < f.length) (h1 : f.head? = some 48 → ¬ (l = true ∨ 1 < f.length)) : amtV l f = some (if l then -(NumText.digitsVal f : Int) else (NumText.digitsVal f : Int)) := by
  unfold amtV
  rw [if_neg (fun z => h0 z.1), if_neg (fun z => z.elim h0 h), if_neg (fun z => h1 z.1 z.2)]
theorem amt_of {r : List Nat} : pAmt r = (amtV (less r) (figs (if less r then r.drop 1 else r))).map fun k => (k, (if less r then 1 else 0) + (figs (if less r then r.drop 1 else r)).length) := by
  unfold pAmt amtV
  simp only
  by_cases c1 : figs (if less r then r.drop 1 else r) = [] ∧ less r = false
  · rw [if_pos c1, if_pos c1, c1.1, c1.2]
    rfl
  rw [if_neg c1, if_neg c1]
  by_cases c2 : figs (if less r then r.drop 1 else r) = [] ∨ 30 < (figs (if less r then r.drop 1 else r)).length
  · rw [if_pos c2, if_pos c2]
    rfl
  rw [if_neg c2, if_neg c2]
  by_cases c3 : (figs (if less r then r.drop 1 else r)).head? = some 48 ∧ (less r = true ∨ 1 < (figs (if less r then r.drop 1 else r)).length)
  · rw [if_pos c3, if_pos c3]
    rfl
  rw [if_neg c3, if_neg c3]
  rfl
theorem az2_tx : Str.ofString "abcdefghijklmnopqrstuvwxyz" = tx (List.range' 97 26) := by decide +kernel
theorem az2_mem {a : Nat} : decide (a ∈ List.range' 97 26) = decide (97 ≤ a ∧ a ≤ 122) := by
  rw [Bool.eq_iff_iff, decide_eq_true_eq, decide_eq_true_eq, List.mem_range'_1]
  omega
theorem pPart_nil (n : Nat) : pPart n [] = none := by
  cases n <;> rfl
theorem pPart_l {n a : Nat} {r : List Nat} (h : 97 ≤ a ∧ a ≤ 122) : pPart n (a :: r) = match pAmt r with
    | none => none
    | some (k, m) => some (.pc (tx [a]) k, 1 + m) := by
  cases n <;> simp only [pPart, h, and_self, if_true]
theorem pPart_0 {a : Nat} {r : List Nat} (h : ¬ (97 ≤ a ∧ a ≤ 122)) : pPart 0 (a :: r) = none := by
  simp only [pPart, h, if_false]
theorem pPart_lp {n : Nat} {r : List Nat} : pPart (n + 1) (40 :: r) = match pIn (fun r => pRow (pPart n) r.length r) 41 r with
    | none => none
    | some (ts, m) => match pAmt (r.drop m) with
      | none => none
      | some (k, j) => some (.times (.parts ts) k, 1 + m + j) := by
  simp only [pPart]
  rfl
theorem pPart_lb {n : Nat} {r : List Nat} : pPart (n + 1) (91 :: r) = match pIn (fun r => pRow (pPart n) r.length r) 44 r with
    | none => none
    | some (ts, m) => match pIn (fun r => pRow (pPart n) r.length r) 93 (r.drop m) with
      | none => none
      | some (us, j) => some (.back (.parts ts) (.parts us), 1 + m + j) := by
  simp only [pPart]
  rfl
theorem pPart_no {n a : Nat} {r : List Nat} (h : ¬ (97 ≤ a ∧ a ≤ 122)) (h1 : a ≠ 40) (h2 : a ≠ 91) : pPart (n + 1) (a :: r) = none := by
  simp only [pPart, h, h1, h2, if_false]
theorem pIn_none {row : List Nat → Option (List Tm × Nat)} {c : Nat} {r : List Nat} (h : row r = none) : pIn row c r = none := by
  unfold pIn
  rw [h]
theorem pIn_some {row : List Nat → Option (List Tm × Nat)} {c m : Nat} {r : List Nat} {ts : List Tm} (h : row r = some (ts, m)) (hc : (r.drop m).head? = some c) : pIn row c r = some (ts, m + 1) := by
  unfold pIn
  rw [h]
  exact if_pos hc
theorem pIn_bad {row : List Nat → Option (List Tm × Nat)} {c m : Nat} {r : List Nat} {ts : List Tm} (h : row r = some (ts, m)) (hc : ¬ (r.drop m).head? = some c) : pIn row c r = none := by
  unfold pIn
  rw [h]
  exact if_neg hc
theorem stop_has {r : List Nat} : hasS (tx (r.take 1)) [.str (tx []), .str (tx [41]), .str (tx [44]), .str (tx [93])] = stopR r := by
  unfold hasS stopR
  cases r with
  | nil => simp
  | cons a r =>
    have e : (a :: r).take 1 = [a] := rfl
    rw [e, Bool.eq_iff_iff]
    simp [tx_inj]
    omega
theorem stop_all : ([.str (tx []), .str (tx [41]), .str (tx [44]), .str (tx [93])] : List D).all strD = true := rfl
theorem pRow_stop {p : List Nat → Option (Tm × Nat)} {m : Nat} {r : List Nat} (h : stopR r = true) : pRow p m r = some ([], 0) := by
  cases m <;> simp [pRow, h]
theorem pRow_go {p : List Nat → Option (Tm × Nat)} {m : Nat} {r : List Nat} (h : stopR r = false) : pRow p (m + 1) r = match p r with
    | none => none
    | some (t, k) => match pRow p m (r.drop k) with
      | none => none
      | some (ts, j) => some (t :: ts, k + j) := by
  simp [pRow, h]
/-- a cord's pieces as terms -/
def tp (p : Pc) : Tm := .pc p.1 p.2
theorem lys_tp (c : List Pc) : lys (c.map tp) = c := by
  induction c with
  | nil => rfl
  | cons p c ih => simp [lys, ly, tp, ih]
theorem nmt_w {k : Int} (h : k.natAbs < 10 ^ 30) : NumW (nmt k) k := by
  unfold nmt
  split
  · rename_i e
    exact .inl ⟨rfl, e⟩
  · exact .inr ⟨rfl, h⟩
theorem gr_tp {n : Nat} : ∀ {c : List Pc}, Nl c → (∀ p ∈ c, p.2.natAbs < 10 ^ 30) → GR n (c.map tp) (wrs (c.map tp))
  | [], _, _ => .nil
  | p :: c, h, hb => by
    obtain ⟨y, e, h1, h2⟩ := h p (by simp)
    have ih := gr_tp (n := n) (c := c) (fun q hq => h q (by simp [hq])) fun q hq => hb q (by simp [hq])
    have e2 : wrs ((p :: c).map tp) = y :: (nmt p.2 ++ wrs (c.map tp)) := by
      simp only [List.map_cons, wrs, tp, wr, e, tx_cps, List.cons_append, List.nil_append, List.append_assoc]
    have e3 : (p :: c).map tp = .pc (tx [y]) p.2 :: c.map tp := by
      simp only [List.map_cons, tp, e]
    rw [e2, e3]
    exact .pc h1 h2 (nmt_w (hb p (by simp))) ih
theorem tp_inj {a b : List Pc} (h : a.map tp = b.map tp) : a = b := by
  have := congrArg lys h
  rwa [lys_tp, lys_tp] at this
theorem wrs_inj {a b : List Pc} (ha : Nl a) (hb : Nl b) (h1 : ∀ p ∈ a, p.2.natAbs < 10 ^ 30) (h2 : ∀ p ∈ b, p.2.natAbs < 10 ^ 30) (h : wrs (a.map tp) = wrs (b.map tp)) : a = b := by
  have e1 := (gr_tp (n := 30) ha h1).parse
  have e2 := (gr_tp (n := 30) hb h2).parse
  rw [h, e2] at e1
  have e3 : Tm.parts (b.map tp) = Tm.parts (a.map tp) := Option.some.inj e1
  injection e3 with e4
  exact (tp_inj e4).symm
theorem wrs_len {c : List Pc} (h : ∀ p ∈ c, p.1.length ≤ 1 ∧ p.2.natAbs < 10 ^ 40) : (wrs (c.map tp)).length ≤ 42 * c.length := by
  induction c with
  | nil => simp [wrs]
  | cons p c ih =>
    have h1 := h p (by simp)
    have h2 := nmt_len h1.2
    have h3 := ih fun q hq => h q (by simp [hq])
    have h4 : p.1.cps.toList.length = p.1.length := by rw [Array.length_toList]; rfl
    simp only [List.map_cons, wrs, tp, wr, List.length_append, List.length_cons]
    have h5 : (wrs (c.map tp)).length = (wrs (List.map tp c)).length := rfl
    omega
theorem str_assoc (a b c : Str) : a ++ b ++ c = a ++ (b ++ c) := by
  rw [tx_of a, tx_of b, tx_of c]
  simp only [tx_app, List.append_assoc]
theorem lt_lp : Str.ofString "(" = tx [40] := by decide +kernel
theorem lt_rp : Str.ofString ")" = tx [41] := by decide +kernel
theorem lt_lb : Str.ofString "[" = tx [91] := by decide +kernel
theorem lt_rb : Str.ofString "]" = tx [93] := by decide +kernel
theorem lt_cm : Str.ofString "," = tx [44] := by decide +kernel
theorem lt_mi : Str.ofString "-" = tx [45] := by decide +kernel
theorem lt_0 : Str.ofString "0" = tx [48] := by decide +kernel
theorem lt_dg : Str.ofString "0123456789" = tx [48, 49, 50, 51, 52, 53, 54, 55, 56, 57] := by decide +kernel
theorem ts_nt (k : Int) : Str.ofString (toString k) = tx (nt k) := by
  unfold nt
  exact tx_of _
end NL

/-! A method's error caught; isinstance of an object. -/
namespace NL
open PySem PySem.Spec L2
open PyProof.Rows hiding St
section
variable [KC] {X : Cx} {E : XK} {o e : Expr} {es : List Expr} {wa : WE} {m nm : Str} {sp : Spec} {b0 : Stmt} {suite : List Stmt} {np pos apos pos1 pos2 pos3 : Pos} {cn an cs : List Str} {ws : Addr → Str → WS}
def tMethVS (m : Str) (ok : Addr → Sp → Prop) (E : L2.St → XK) (ta : TE) : TE := fun σ H Q => ta σ H fun x H1 => ∃ a C dx kvs sp, x = .ref a ∧ H1 a = some (.ins C dx kvs) ∧ kvs.lookup m = none ∧ ok C sp ∧ sp [x] H1 Q (E σ)
omit [KC] in
theorem pe_methVS {pl : Sem Bool} {ok : Addr → Sp → Prop} {ta : TE} {E : L2.St → XK} (he : PE X o ta) (hok : ∀ C sp, ok C sp → MC X m C sp) (hx : ∀ σ, PassesAt (L2N.CX X.prog X.w) X σ (E σ))
    (ht : MTree X o m apos pos [] pl) : PE X (.Call (.Attribute o m apos) [] [] pos) (tMethVS m ok E ta) := by
  constructor
  intro pins s σ H Q I h
  refine PySem.W.methodCall_KW (pl := pl) (thn (he.run pins s σ H _ I h) ?_) ht
  rintro u s1 ⟨x, H1, I1, rx, a, C, dx, kvs, sp, ex, ea, l, okC, q⟩
  subst ex
  obtain rfl : u = Value.ref a := rx
  obtain ⟨k, f, fd, ps, c, hm, F, hr, hb⟩ := (hok C sp okC).ex
  exact getmeth_ok I1 ea c hm l (PySem.W.callWith_K0 (first := [.ref a]) I1.kIn hm.kp (run_fnS (us := [.ref a]) (vs := [.ref a]) F hr hb (hx σ) I1 (.cons rfl .nil) q))
/-- try: o.m() -/
def wTryM (cn : List Str) (i : Nat) (cs : List Str) (m : Str) (sp : Spec) (wa : WE) (ws : Addr → Str → WS) : WS := fun q ρ => wa (fun _ => False) ρ fun d => isM cs m d ∧ Ask sp [d] (fun n => n ∈ cn ∧ ∀ a, ws a n (q.off i) (ρ.set i (.fz (.ref a)))) (fun _ => q.nx ρ) ⟨⟩
theorem sd_tryM {pl : Sem Bool} (i : Nat) (h : ∀ c ∈ cs, MC X m (KC.ca c) (spOf X.mg (SPc c sp))) (ho : ∀ (pn : List (Addr × Obj)) (xe : Value → Shared → Prop), ED (X.tr pn xe) E0 o wa) (er : ErrT X.K X.mg cn an) (ak : AskT X.K X.mg an) (hH : ("HangError" : Str) ∈ an)
    (hsu : ∀ (a : Addr) (n : Str) (pn : List (Addr × Obj)), n ∈ cn → HotE (X.suite a pn) a n → SDs (X.suite a pn) E0 (b0 :: suite) (ws a n))
    (hgH : Gl X "HangError") (ht : MTree X o m apos pos [] pl := by exact rfl) (hst : X.stack = X.env :: X.outer := by rfl) (hfr : X.env.frame = some X.env.locals := by rfl) (hN : X.N.Nodup) (hi : X.N[i]? = some nm := by rfl) (hln : X.env.kindOf nm = some .local := by rfl)
    (hs : swapsWith (.Call (.Attribute o m apos) [] [] pos) none pos1.line X.env = pure false := by rfl) :
    SD X E (.Try [.Expr (.Call (.Attribute o m apos) [] [] pos) pos1] [.ExceptHandler (some (.Name "HangError" np)) (some nm) (b0 :: suite) pos2] [] [] pos3) (wTryM cn i cs m sp wa ws) := by
  obtain ⟨HA, m1, m2, m3, m4⟩ := ak _ hH
  refine ⟨_, L2N.ps_try_as (c := .ref HA) (i := i) (ts := canS X.mg cn ws) (tb := fun W => tSeq (tDrop (tMethVS m (okD cs X.mg sp) (L2.WE W) (canE X.mg E0 wa))) tNext) hst hfr hN hi hln ⟨hgH, by decide, .inl m1⟩ takesN (fun W pn xe tk _ => ?_) (fun a oe cls d pn hz hf => ⟨fun pins s σ H D I h => ?_⟩), fun q ρ hw F σ H S D rp oe => ?_⟩
  · exact pss_one (ps_expr (pe_methVS (X := X.tr pn xe) (ho pn xe).can (okD_mc (X := X.tr pn xe) fun c hc => ⟨(h c hc).ex⟩) (fun σ => L2N.passAt tk σ) ht) hs)
  · obtain ⟨n, C, q, ρ, F, S, hn, gC, rfl, rfl, hw, rp, oq⟩ := h
    obtain ⟨t, pt, so⟩ := (hsu a n _ hn ⟨(a, oe), C, List.mem_cons_self, rfl, gC, ⟨hz, hf⟩⟩).ex
    exact pt.run pins s σ H D I (so q ρ hw F σ H S D rp oq)
  · refine ⟨fun _ => False, ρ, _, F, S, hw, rp, (fun _ _ _ _ z => z.elim), fun d v H1 S1 ask g1 h1 => ?_⟩
    obtain ⟨c, fs, xs, a, dx, kvs, rfl, hc, rfl, r, l⟩ := ask.1.dat (BDat.of g1.sh h1)
    refine ⟨a, _, dx, kvs, _, rfl, r, l, ⟨c, hc, rfl, rfl⟩, [_], S1, _, _, ⟨g1.sh, (rp.grow g1).fg.tb⟩, .one h1, ⟨⟨fs, xs, [], rfl⟩, ask.2⟩, fun r v H2 S2 q2 g2 h2 => ?_, fun n C H2 S2 hx hC g2 => ?_⟩
    · obtain ⟨S3, g3, h3⟩ := h2.dat g2
      exact oe.nx _ _ H2 S3 q2 (rp.grow (g1.trans g3))
    · obtain ⟨hn, hx⟩ := hx
      obtain ⟨C', c1, c2, c3, c4, c5⟩ := er n hn
      obtain ⟨D', d1, d2⟩ := c5 _ hH
      rw [m1] at d1
      cases d1
      rw [hC] at c1
      cases c1
      have yes : isSubN n "HangError" = true := by simp [isSubN]
      refine ⟨true, by rw [exm_of m2 m3 m4 d2, yes], fun _ b hb => ?_, fun z => nomatch z⟩
      exact ⟨n, C, q.off i, _, F, S2, hn, hC, rfl, rfl, hx b, (rp.grow (g1.trans g2)).set (d := .ref b) (by unfold Dat; rfl), oe.off⟩
/-- what isinstance asks of an object's class C, where the class at D is named -/
structure IsObj (K : PySem.W.Frag) (C D : Addr) : Prop where
  ha : PySem.W.findIn K (.ref C) "__class__" = some (some (.builtin "object.__class__"))
  hm : PySem.W.mroIn K C (.type "object") = some true
  cc : PySem.W.subIn K (.ref C) (.ref C) = some true
  cd : PySem.W.subIn K (.ref C) (.ref D) = some true
structure IsT0 (K : PySem.W.Frag) (D : Addr) : Prop where
  hn : PySem.W.specialIn K (.builtin "object.__class__") "__get__" = some (some (.builtin "getset_descriptor.__get__"))
  ht : PySem.W.takesIn K (.builtin "object.__class__") = some true
  ty : PySem.W.typeIn K (.ref D) = some (.type "type")
  hd : PySem.W.hasDictIn K D = true
def isC (cs : List Str) (d : D) : Prop := ∃ c fs xs, d = .obj c fs xs ∧ c ∈ cs
def wIsO (cs : List Str) (wa : WE) : WE := fun x ρ Q => wa x ρ fun d => isC cs d ∧ Q (.bl true)
theorem ed_isO {y : Str} {D : Addr} {p q : Pos} (h : ∀ c ∈ cs, Cls X.K (KC.ca c) ∧ IsObj X.K (KC.ca c) D) (h0 : IsT0 X.K D) (hg : Gl X "isinstance") (hm : X.mg "isinstance" = none) (hgy : Gl X y) (hy : X.mg y = some (.ref D)) (ha : BD X E e wa) (hdy : (y == ("__debug__" : Str)) = false := by decide)
    (he : starEach (e :: [.Name y q]) X.env = (false, eval e X.env) :: starEach [.Name y q] X.env := by rfl) (he2 : starEach [.Name y q] X.env = (false, eval (.Name y q) X.env) :: starEach [] X.env := by rfl) (hpl : (backTo pos (starEach [.Name y q] X.env)).any (·.1) = false := by rfl) :
    ED X E (.Call (.Name "isinstance" p) [e, .Name y q] [] pos) (wIsO cs wa) := by
  obtain ⟨t, pt, s⟩ := ha.ex
  have pT : PE X (.Name y q) (tC (.ref D)) := pe_glob hgy hy rfl hdy
  refine ⟨_, pe_callB call_isi hg hm (by decide +kernel) (pa_cons pt (pa_cons pT pa_nil he2) he) (by decide) (by decide) he hpl, fun x ρ Q hw F σ H S Q' rp ex k => ?_⟩
  refine s x ρ _ hw F σ H S _ rp ex fun d u H1 S1 q1 g1 h1 => ?_
  obtain ⟨⟨c, fs, xs, rfl, hc⟩, q⟩ := q1
  obtain ⟨a, dx, kvs, rfl, r, e1, z⟩ := h1
  obtain ⟨cl, io⟩ := h c hc
  exact ⟨.ref a, .ref D, _, .ref D, true, rfl, .own D, .base (.ins r cl io.ha h0.hn h0.ht io.hm), kit_ref io.cc h0.ty h0.hd io.cd, k _ _ H1 S1 q g1 .b⟩
end
theorem tD_isC (t : Tm) : isC ["Piece", "Parts", "Times", "Back"] (tD t) := by
  cases t with
  | pc n k => exact ⟨_, _, _, by rw [tD], by simp⟩
  | parts ts => exact ⟨_, _, _, by rw [tD], by simp⟩
  | times t k => exact ⟨_, _, _, by rw [tD], by simp⟩
  | back a b => exact ⟨_, _, _, by rw [tD], by simp⟩
theorem tD_isP (ts : List Tm) : isC ["Parts"] (tD (.parts ts)) := ⟨_, _, _, by rw [tD], by simp⟩
theorem GR.ok {n : Nat} {ts : List Tm} {w : List Nat} (g : GR n ts w) (hw : w.length ≤ 1000000) : okTs ts ∧ deps ts ≤ 2 * n + 1 ∧ ts.length ≤ 1000000 := by
  have := g.row [] w.length (by simp [stopR]) (by simp)
  rw [List.append_nil] at this
  obtain ⟨h1, h2, h3, h4⟩ := pRow_ok (p := pPart n) (B := 1000000) (d := 2 * n + 1) (fun r t m => pPart_ok n r t m) w.length w ts _ hw this
  exact ⟨h1, h2, by omega⟩
theorem GR.few {n : Nat} {ts : List Tm} {w : List Nat} (g : GR n ts w) (hw : w.length ≤ 1000000) (hn : n ≤ 20) : pcss ts < 2 ^ 8000 := by
  obtain ⟨h1, h2, h3⟩ := g.ok hw
  have := pcss_lt ts (2 * n + 1) h1 h2
  refine Nat.lt_of_lt_of_le this ?_
  have h4 : ts.length + 1 ≤ 2 ^ 20 := by omega
  refine Nat.le_trans (Nat.mul_le_mul_right _ h4) ?_
  rw [← Nat.pow_add]
  exact Nat.pow_le_pow_right (by omega) (by omega)
theorem pcss_app (a b : List Tm) : pcss (a ++ b) = pcss a + pcss b := by
  rw [← lys_len, ← lys_len, ← lys_len, lys_flat, lys_flat, lys_flat]
  simp
theorem lys_app (a b : List Tm) : lys (a ++ b) = lys a ++ lys b := by
  rw [lys_flat, lys_flat, lys_flat]
  simp
theorem nl_times {c : List Pc} {k : Int} (h : Nl c) : Nl (timesC c k) := fun p hp => by
  unfold timesC at hp
  obtain ⟨l, hl, hpl⟩ := List.mem_flatten.mp hp
  have := List.eq_of_mem_replicate hl
  subst this
  split at hpl
  · exact h.con p hpl
  · exact h p hpl
theorem times_0 {c : List Pc} : timesC c 0 = [] := by simp [timesC]
theorem times_nil {k : Int} : timesC [] k = [] := by
  have : (timesC [] k).length = 0 := by rw [timesC_len]; simp
  exact List.length_eq_zero_iff.mp this
theorem times_1 {t : Tm} {k : Int} : pcss [.times t k] = pcs t * k.natAbs := by simp [pcss, pcs]
theorem lys_1 {t : Tm} : lys [t] = ly t := by simp [lys]
theorem sp2 : NumW [50] 2 := .inr ⟨by decide +kernel, by decide⟩
end NL

/-! == of an own object without a __eq__ and a text; a truth in a list of truths -/
namespace NL
open PySem PySem.Spec L2
open PyProof.Rows hiding St

structure EqObj (K : PySem.W.Frag) (C : Addr) : Prop where
  find : PySem.W.findIn K (.ref C) "__eq__" = some (some (.builtin "object.__eq__"))
  isO : PySem.W.subIn K (.ref C) (.type "object") = some true
  noStr : PySem.W.subIn K (.type "str") (.ref C) = some false
section
variable {prog : Program} {w : World} {A : Around} {E : Value → Shared → Prop} {s : Shared} {K : PySem.W.Frag} {x C : Addr} {ox : Obj} {od : Option Obj} {a : Str} {t : Tok}
theorem oe_bind (self : Value) : bindSpecial (.builtin "object.__eq__") self = pure (.builtin "object.__eq__", [self]) := PySem.F.cmp_object.eq.bind self
theorem bif_obj {M : Model} {b : Value} {Q : Option Value → Shared → Prop} (X : K.In s.heap) (I : PySem.W.InstAt s.heap x ox C od) (e : EqObj K C)
    (h : wpAny M A (call (.builtin "object.__eq__") [.ref x, b]) (fun v => Q (some v)) E s) : wpAny M A (callSpecialIfBound? (.ref x) "__eq__" [b]) Q E s := by
  simp only [callSpecialIfBound?, bindSpecialIfBound?]
  refine wpAny_holding (wpAny_bind (wpAny_bind (wpAny_bind (I.type.here ((PySem.W.looks_findIn X e.find).here ?_)))))
  simp only [oe_bind]
  refine wpAny_bind (wpAny_askSetting (wpAny_ite ?_))
  have fin : wpAny M A (call (.builtin "object.__eq__") ([.ref x] ++ [b]) >>= fun v => pure (some v)) Q E s := wpAny_bind (wpAny_mono h (fun v s' h' => wpAny_pure h') fun _ _ h' => h')
  split
  · exact wpAny_bind (wpAny_pure (wpAny_pure fin))
  · exact wpAny_tryCatch (wpAny_bind (wpAny_pure (wpAny_pure fin)))
theorem oe_call {Q : Value → Shared → Prop} (X : K.In s.heap) (I : PySem.W.InstAt s.heap x ox C od) (e : EqObj K C) (q : Q .notImplemented s) :
    wpAny (model prog w) A (call (.builtin "object.__eq__") [.ref x, .str a t]) Q E s := by
  refine wpAny_call (codeAny_call_builtin PySem.F.cmp_object.eq.plain PySem.F.cmpEntry_eq ?_)
  simp only [checkBuiltinCall, PySem.F.cmpKind_eq, PySem.F.cmpSplit_eq]
  refine wpAny_bind (wpAny_bind ?_)
  refine I.type.here ((PySem.W.looks_subIn X e.isO).here ?_)
  have ha := PySem.F.cmpArgs_eq (.ref x) (.str a t)
  have body : wpAny (model prog w) A.in1 (Builtin.«object.__eq__» ⟨[.ref x, .str a t], []⟩) (fun fin s' => match fin with
      | .done f => (match Except.ok f with
        | Except.ok (Flow.ret v) => Q v s'
        | Except.ok a => False
        | Except.error e => E e s')
      | .again c' => c'.quiet = true ∧ codeAny (model prog w) A c' (fun r s' => match r with
        | Except.ok (Flow.ret v) => Q v s'
        | Except.ok a => False
        | Except.error e => E e s') s') (fun e s' => E e s') s := by
    obtain ⟨hp, g, d, tk, os⟩ := s
    unfold Builtin.«object.__eq__»
    wp_walk
    exact q
  cases hsig : Manifest.signature? "object.__eq__" with
  | none => exact wpAny_pure body
  | some sig =>
    simp only [argsOk, hsig] at ha
    have h2 : Bind.checkArgs "object.__eq__" sig ⟨[.ref x, .str a t], []⟩ = pure () := ha
    simp only [Bool.not_true, Bool.false_eq_true, if_false, h2]
    exact wpAny_pure body
theorem str_ref {M : Model} {dx : Addr} {Q : Fin → Shared → Prop} (hx : s.heap.get? x = some (PySem.W.instObj C dx)) (q : Q (.done (.ret .notImplemented)) s) :
    wpAny M A (Builtin.«str.__eq__» ⟨[.str a t, .ref x], []⟩) Q E s := by
  obtain ⟨hp, g, d, tk, os⟩ := s
  wp_walk using AutoSeq1.wpAny_loadPart' hx
  exact q
theorem rc_obj_str {dx : Addr} {Q : Value → Shared → Prop} (hu : A.units < cLine) (X : K.In s.heap) (I : PySem.W.InstAt s.heap x (PySem.W.instObj C dx) C od) (e : EqObj K C) (q : Q (.bool false) s) :
    wpAny (model prog w) A (richCompare .Eq (.ref x) (.str a t)) Q E s := by
  have c1 : wpAny (model prog w) A (tryCompare (.ref x) "__eq__" (.str a t)) (fun r s' => r = none ∧ s' = s) E s := by
    unfold tryCompare
    exact wpAny_bind (bif_obj X I e (oe_call X I e (wpAny_pure ⟨rfl, rfl⟩)))
  have c2 : wpAny (model prog w) A (tryCompare (.str a t) "__eq__" (.ref x)) (fun r s' => r = none ∧ s' = s) E s := by
    refine wpAny_tryCompare_declines (typeIs_str s a t) F.slot_str_eq_refl ?_
    refine wpAny_call (codeAny_call_builtin F.slot_str_eq_refl.plain F.entry_str_eq (F.slot_str_eq_refl.check _ _ _ _ _ _ _ _ (typeIs_str s a t) (F.args_str_eq_2 _ _) (str_ref I.at_ ⟨rfl, rfl, rfl⟩)))
  unfold richCompare
  simp only [oneThing_ref, PySem.cmpInfo_Eq]
  refine wpAny_holding (wpAny_bind (wpAny_cRoomFor hu ?_))
  refine wpAny_bind (I.type.here (wpAny_bind (wpAny_typeOf (typeIs_str s a t) ?_)))
  simp only [show ((Value.ref C != Value.type "str") = true) from rfl, if_true]
  refine wpAny_bind ((PySem.W.looks_subIn X e.noStr).here ?_)
  simp only [Bool.false_eq_true, if_false, Bool.not_false, if_true]
  refine wpAny_bind (wpAny_mono c1 (fun r s1 h1 => ?_) fun _ _ x => x)
  obtain ⟨rfl, rfl⟩ := h1
  refine wpAny_bind (wpAny_mono c2 (fun r s2 h2 => ?_) fun _ _ x => x)
  obtain ⟨rfl, rfl⟩ := h2
  refine wpAny_bind (wpAny_rule (wpAny_bind (wpAny_of_eq (show isSame (.ref x) (.str a t) = pure false from rfl) (wpAny_pure q))))
end
section
variable [KC] {X : Cx} {E : XK}
def rObjStr (C : Addr) : R2 := fun x y H Q => ∃ a dx fs s, x = .ref a ∧ H a = some (.ins C dx fs) ∧ y = .str s ∧ Q (.bl false) H
omit [KC] in
theorem op_objStr {C : Addr} (e : EqObj X.K C) (hu : X.A.units < cLine) : OpR X (compareOp .Eq) (rObjStr C) := by
  intro pins s σ H x y v u Q I rx ry hq
  obtain ⟨a, dx, fs, z, rfl, ha, rfl, q⟩ := hq
  cases rx
  obtain ⟨t, rfl⟩ := ry
  obtain ⟨mA, J, _⟩ := ins_get I.hok ha
  obtain ⟨od, J, _⟩ := J.look
  show wpAny (model X.prog X.w) X.A (richCompare .Eq (.ref a) (.str z t)) (EP X pins σ Q) X.xe s
  exact rc_obj_str hu I.kIn J e ⟨.bl false, H, I, rfl, q⟩
/-- an object of the class c is no text -/
def gEqO (c : Str) : D → D → (D → Prop) → Prop
  | .obj c' _ _, .str _, Q => c' = c ∧ Q (.bl false)
  | _, _, _ => False
theorem dEqO {k : Nat} {c : Str} (hr : Room k X.A) (e : EqObj X.K (KC.ca c)) : OpD X (compareOp .Eq) (gEqO c) := by
  refine ⟨_, op_objStr e (by have := hr.units; omega), fun d f Q h H S u v Q' sh hd he k => ?_⟩
  unfold gEqO at h
  split at h
  · obtain ⟨rfl, q⟩ := h
    obtain ⟨a, dx, kvs, rfl, r, e1, z⟩ := hd
    cases he
    exact ⟨a, dx, kvs, _, rfl, r, rfl, k _ _ H S q (.refl sh) .b⟩
  · exact h.elim
omit [KC] in
theorem inV_int (n : Int) : ∀ ns : List Int, (ns.map V.int).all flatV = true ∧ inV (.int n) (ns.map V.int) = decide (n ∈ ns)
  | [] => ⟨rfl, by simp [inV]⟩
  | m :: ns => by
    obtain ⟨h1, h2⟩ := inV_int n ns
    refine ⟨by rw [List.map_cons, List.all_cons, h1]; rfl, ?_⟩
    unfold inV at h2 ⊢
    rw [List.map_cons, List.any_cons, h2]
    have : eqV (.int m) (.int n) = decide (n = m) := by
      show (m == n) = _
      rw [Bool.eq_iff_iff, beq_iff_eq, decide_eq_true_eq]
      exact eq_comm
    rw [this]
    by_cases e : n = m <;> simp [e]
def gInI (neg : Bool) : D → D → (D → Prop) → Prop
  | .int n, .lst xs, Q => ∃ ns : List Int, xs = ns.map D.int ∧ Q (.bl (neg ^^ decide (n ∈ ns)))
  | _, _, _ => False
theorem dInI (hK : X.K = KC.K := by rfl) : OpD X (compareOp .In) (gInI false) := by
  refine ⟨_, op_in_seq, fun d e Q h H S u v Q' sh hd he k => ?_⟩
  unfold gInI at h
  split at h
  · obtain ⟨ns, rfl, q⟩ := h
    cases hd.i
    obtain ⟨a, ws, rfl, r, z⟩ := he
    have := z.ofInts
    subst this
    obtain ⟨i1, i2⟩ := inV_int _ ns
    exact ⟨a, _, rfl, .inl (.of r), rfl, i1, by rw [i2]; simpa using k _ _ H S q (.refl sh) .b⟩
  · exact h.elim
theorem dInB (hK : X.K = KC.K := by rfl) : OpD X (compareOp .In) (gInB false) := by
  refine ⟨_, op_in_seq, fun d e Q h H S u v Q' sh hd he k => ?_⟩
  unfold gInB at h
  split at h
  · obtain ⟨bs, rfl, q⟩ := h
    cases hd.b
    obtain ⟨a, ws, rfl, r, z⟩ := he
    have := z.ofBls
    subst this
    obtain ⟨i1, i2⟩ := inV_bl _ bs
    exact ⟨a, _, rfl, .inl (.of r), rfl, i1, by rw [i2]; simpa using k _ _ H S q (.refl sh) .b⟩
  · exact h.elim
end
end NL

namespace NL
open PySem PySem.Spec L2
open PyProof.Rows hiding St
local macro_rules | `(tactic| walk_at "s") => `(tactic| try simp only [wVar, wOwn, wC, wOp, onBl, wtOn, wChain, trD, wtVal, wtNot, wAnd, wOr, wAndV, wOrV, wNotV, wIf, wNil, wCons, wTup, wLst, wUn, wNew, gAdd, gInt, gInt0, gMul, gCatF, gRepF, wOpF, gEq, gCmp, gInS, gIsN, isN, gIsB, gIdx, woNone, woSome, gSl, wSl, gSlF, wSlF, wB, wBF, gLen, gInt1, gInt2, gToInt, gListF, tyName, gIsT, wIsT, wCall, Rt.d, Cn.d, onNew, wCallF, wCallN, wCallNF, nlR, wgName, wgNil, wgCons, wgTup, wSeq, wSeqT, wSigns, wRng1, wRng2, wRng3, wRev, wEnum, wZip, wLc, wtYes, wsNil, wsBrk, wsCnt, wsExpr, wsRet, wsRetF, wsRetOwn, wsRetN, wIfS, wsSet, wsSetF, wsAsg, wsPar, wsAug, gApp, gExt, gPop0, gRev, wMut, wsSetIx, wFor, wsRaise, wSeqS, wFrz, wsCallM, wsPopAdd, endsOf, endM, endsM, startM, startE, wipeE, smallI, CPow, Br_true, Br_false, Br_not, rngD_eq, dC, dP, dI, ex_atI_map, atI0, atI1, atI2, kit1, kit2, kit3, kit4, kit5, kit6, kit7, kit8, kit9, kit10, kit11, kit12, kit13, kit14, kit15, kit16, kit17, kit18, kit19, kit20, kit21, kit22, kit23, kit24, kit25, kit26, kit27, kit28, kit29, kit30, kit31, kit32, kit33, kit34, kit35, sizeLine_eq, true_and, and_true, exists_eq_left', Option.some.injEq, List.map_cons, List.map_nil, List.length_cons, List.length_nil, List.length_map, List.length_append, List.cons_append, List.nil_append, List.set_cons_zero, List.set_cons_succ, List.getElem?_cons_zero, List.getElem?_cons_succ, List.getElem?_nil, Nat.reduceSub, Nat.reduceAdd, Nat.zero_add, Nat.sub_self, List.replicate_succ, List.replicate_zero, Bool.false_bne, Bool.true_bne, Bool.false_xor, Bool.true_xor, Bool.not_true, Bool.not_false, Bool.not_not, beq_self_eq_true, Bool.and_true, Bool.true_and, nl, nls, decide_true, decide_false, exists_eq_left, Bool.false_eq_true, Option.some_inj, Int.reduceToNat, Int.reducePow, Int.reduceMul, Int.reduceSub, Int.reduceAdd, Int.reduceNeg, Nat.reducePow, Nat.reduceLeDiff, Int.reduceLE, Int.reduceLT, Int.reduceAbs, Int.natAbs_neg, Nat.reduceLT, divW_eq, mulW_eq, Bool.or_true, Bool.true_or, cut_map, ← List.map_append, ← List.map_reverse, castN, eq_self, Int.reduceEq, deqC, deq_self, rep_map, nls_dP, wsAugIx, tx_cps, tx_len, tx_app, tx_one, tx_nil, tx_cut, tx_signs, tx_rep, lit_empty, tx_inj, wJoin, gJoin, wmCall, wmOpL, wmOpR, wmIxR, wmTup2, wsSetM, wsAppM, wForM, gSum, gAny, gAll, gLtD, gInT, gSorted, gAddT, wThaw, gMaxL, wIsE, wIsV, wCallE, wTry, DEnds.off, gInB, wDct0, wCntB, wIdxB, wTryF, gEqO, gInI, gIns, gTup, wDct1, gEqR, wFld, wsSetFld, wsAddFld, isO_rfl, wMeth, wMethF, wMethN, wmMeth, wsExprM, wsRetM, wmOne, wmCons, wMake, wmMake, wsSetMk, gToIntS, endsO, endO, startO, List.getElem?_cons_succ, wTryM, wIsO, rC, lt_lp, lt_rp, lt_lb, lt_rb, lt_cm, lt_mi, lt_0, lt_dg, ts_nt, gStr, wsSetV])
abbrev CN : List Str := ["NoText", "TooLong"]
abbrev AN : List Str := ["HangError", "NoCord", "NoLine", "NoMove", "NoNails", "NoName", "NoNumber", "NoRule", "NoText", "TooLong", "TooMany"]
def C_LETTERS : D := .str "abcdefghijklmnopqrstuvwxyz"
def C_MOST : D := .int 4000
def C_FIGURES : D := .str "0123456789"
def C_MOST_FIGURES : D := .int 30
def C_DEEPEST : D := .int 30
--@ law_mix
def SP_law_mix : Spec := fun ds _ R => ∃ cell k : Int, ds = [.int cell, .int k] ∧ 0 ≤ k ∧ k ≤ 100000 ∧ ∀ v : Int, 0 ≤ v → v < 2305843009213693951 → R (.val (.int v))
theorem len_law_mix (ds : List D) (x : XS) (R : Rt → Prop) (h : SP_law_mix ds x R) : ds.length = ["_law_cell", "_law_k"].length := by
  obtain ⟨c, k, rfl, _⟩ := h; rfl
def W_law_mix : WS :=
  (wSeqS (wsSet 2 (wOp gAdd (wOp gAdd (wOp (gInt (fun _ j => 0 < j) fun i j => i % j) (wVar 0) (wC (.int 2305843009213693951))) (wOp gMul (wC (.int 131)) (wVar 1))) (wC (.int 17))))
  (wSeqS (wsSet 2 (wOp (gInt (fun _ j => 0 < j) fun i j => i % j) (wOp gMul (wVar 2) (wOp gAdd (wC (.int 2862933555777941757)) (wOp gMul (wOp gMul (wC (.int 2)) (wVar 1)) (wVar 1)))) (wC (.int 2305843009213693951))))
  (wsRet (wOp (gInt CDivW fun i j => i / j) (wOp (gInt (fun _ j => 0 < j) fun i j => i % j) (wOp gMul (wOp gAdd (wOp (gInt CDivW fun i j => i / j) (wVar 2) (wC (.int 8191))) (wOp gMul (wVar 1) (wVar 1))) (wC (.int 3935559000370003845))) (wC (.int 2305843009213693921))) (wC (.int 7))))))
theorem pure_law_mix (ds : List D) (x : XS) (R : Rt → Prop) (h : SP_law_mix ds x R) : W_law_mix (endsOf R x) (startE 3 ds) := by
  obtain ⟨cell, k, rfl, hk, hk2, q⟩ := h
  have kk : 0 ≤ k * k ∧ k * k ≤ 10000000000 := ⟨Int.mul_nonneg hk hk, Int.mul_le_mul hk2 hk2 hk (by omega)⟩
  have k2 : 0 ≤ 2 * k * k ∧ 2 * k * k ≤ 20000000000 := by rw [Int.mul_assoc]; omega
  simp only [W_law_mix, wVar, wOwn, wC, wOp, onBl, wtOn, wChain, trD, wtVal, wtNot, wAnd, wOr, wAndV, wOrV, wNotV, wIf, wNil, wCons, wTup, wLst, wUn, wNew, gAdd, gInt, gInt0, gMul, gCatF, gRepF, wOpF, gEq, gCmp, gInS, gIsN, isN, gIsB, gIdx, woNone, woSome, gSl, wSl, gSlF, wSlF, wB, wBF, gLen, gInt1, gInt2, gToInt, gListF, tyName, gIsT, wIsT, wCall, Rt.d, Cn.d, onNew, wCallF, wCallN, wCallNF, nlR, wgName, wgNil, wgCons, wgTup, wSeq, wSeqT, wSigns, wRng1, wRng2, wRng3, wRev, wEnum, wZip, wLc, wtYes, wsNil, wsBrk, wsCnt, wsExpr, wsRet, wsRetF, wsRetOwn, wsRetN, wIfS, wsSet, wsSetF, wsAsg, wsPar, wsAug, gApp, gExt, gPop0, gRev, wMut, wsSetIx, wFor, wsRaise, wSeqS, wFrz, wsCallM, wsPopAdd, endsOf, endM, endsM, startM, startE, wipeE, smallI, CPow, Br_true, Br_false, Br_not, rngD_eq, dC, dP, dI, ex_atI_map, atI0, atI1, atI2, kit1, kit2, kit3, kit4, kit5, kit6, kit7, kit8, kit9, kit10, kit11, kit12, kit13, kit14, kit15, kit16, kit17, kit18, kit19, kit20, kit21, kit22, kit23, kit24, kit25, kit26, kit27, kit28, kit29, kit30, kit31, kit32, kit33, kit34, kit35, sizeLine_eq, true_and, and_true, exists_eq_left', Option.some.injEq, List.map_cons, List.map_nil, List.length_cons, List.length_nil, List.length_map, List.length_append, List.cons_append, List.nil_append, List.set_cons_zero, List.set_cons_succ, List.getElem?_cons_zero, List.getElem?_cons_succ, List.getElem?_nil, Nat.reduceSub, Nat.reduceAdd, Nat.zero_add, Nat.sub_self, List.replicate_succ, List.replicate_zero, Bool.false_bne, Bool.true_bne, Bool.false_xor, Bool.true_xor, Bool.not_true, Bool.not_false, Bool.not_not, beq_self_eq_true, Bool.and_true, Bool.true_and, nl, nls, decide_true, decide_false, exists_eq_left, Bool.false_eq_true, Option.some_inj, Int.reduceToNat, Int.reducePow, Int.reduceMul, Int.reduceSub, Int.reduceAdd, Int.reduceNeg, Nat.reducePow, Nat.reduceLeDiff, Int.reduceLE, Int.reduceLT, Int.reduceAbs, Int.natAbs_neg, Nat.reduceLT, divW_eq, mulW_eq, Bool.or_true, Bool.true_or, cut_map, ← List.map_append, ← List.map_reverse, castN, eq_self, Int.reduceEq, deqC, deq_self, rep_map, nls_dP, wsAugIx, tx_cps, tx_len, tx_app, tx_one, tx_nil, tx_cut, tx_signs, tx_rep, lit_empty, tx_inj, wJoin, gJoin, wmCall, wmOpL, wmOpR, wmIxR, wmTup2, wsSetM, wsAppM, wForM, gSum, gAny, gAll, gLtD, gInT, gSorted, gAddT, wThaw, gMaxL, wIsE, wIsV, wCallE, wTry, DEnds.off, gInB, wDct0, wCntB, wIdxB, wTryF, gEqO, gInI, gIns, gTup, wDct1, gEqR, wFld, wsSetFld, wsAddFld, isO_rfl, wMeth, wMethF, wMethN, wmMeth, wsExprM, wsRetM, wmOne, wmCons, wMake, wmMake, wsSetMk, gToIntS, endsO, endO, startO, List.getElem?_cons_succ, wTryM, wIsO, rC, lt_lp, lt_rp, lt_lb, lt_rb, lt_cm, lt_mi, lt_0, lt_dg, ts_nt, gStr, wsSetV]
  have a0 : 0 ≤ cell % 2305843009213693951 := Int.emod_nonneg _ (by decide)
  have a1 : cell % 2305843009213693951 < 2305843009213693951 := Int.emod_lt_of_pos _ (by decide)
  generalize cell % 2305843009213693951 = v at a0 a1 ⊢
  have b0 : 0 ≤ (v + 131 * k + 17) * (2862933555777941757 + 2 * k * k) % 2305843009213693951 := Int.emod_nonneg _ (by decide)
  have b1 : (v + 131 * k + 17) * (2862933555777941757 + 2 * k * k) % 2305843009213693951 < 2305843009213693951 := Int.emod_lt_of_pos _ (by decide)
  refine ⟨mulW (by omega) (by omega), mulW (by omega) (by omega), mulW (by omega) (by omega), mulW (by omega) (by omega), ?_⟩
  generalize (v + 131 * k + 17) * (2862933555777941757 + 2 * k * k) % 2305843009213693951 = w at b0 b1 ⊢
  refine ⟨mulW (by omega) (by omega), mulW (by omega) (by omega), q _ (by omega) (by omega)⟩
--@ law_words
def wK : Nat → Int
  | 0 => 8219
  | 1 => 746
  | 2 => 66
  | _ => 1
def wM : Nat → Nat
  | 0 => 2
  | 1 => 2
  | 2 => 3
  | _ => 8
def wI : Nat → Nat
  | 0 => 4
  | 1 => 19
  | 2 => 79
  | _ => 477
def SP_law_words (n : Nat) : Spec := fun ds _ R => ∃ (cell k : Int) (d : Nat), ds = [.int cell, .int d, .int k] ∧ d ≤ 3 ∧ d < n ∧ 0 ≤ k ∧ k ≤ wK d ∧ ∀ s : List Nat, s.length ≤ wM d * wI d → R (.val (.str (tx s)))
theorem len_law_words (n : Nat) (ds : List D) (x : XS) (R : Rt → Prop) (h : SP_law_words n ds x R) : ds.length = ["_law_cell", "_law_deep", "_law_k"].length := by
  obtain ⟨cell, k, d, rfl, _⟩ := h; rfl
theorem no_law_words (ds : List D) (x : XS) (R : Rt → Prop) (h : SP_law_words 0 ds x R) : False := by
  obtain ⟨cell, k, d, _, _, h, _⟩ := h
  omega
theorem strs_at {l : List Str} {i : Int} {b : Nat} (h0 : 0 ≤ i) (h1 : i < l.length) (hb : ∀ z ∈ l, z.cps.toList.length ≤ b) : ∃ m : List Nat, atI (l.map D.str) i = some (.str (tx m)) ∧ m.length ≤ b := by
  obtain ⟨z, hz, hm⟩ := atI_in h0 h1
  exact ⟨z.cps.toList, by rw [atI_map, hz, ← tx_of]; rfl, hb z hm⟩
theorem w_top {d : Nat} (h : d ≤ 3) : 11 * wK d + 7 * ((wM d : Int) - 1) + 6 ≤ 100000 ∧ 0 < wM d ∧ wM d ≤ 8 ∧ 4 ≤ wI d ∧ wI d ≤ 477 := by
  rcases d with _ | _ | _ | _ | d <;> first | (exact absurd h (by omega)) | (refine ⟨?_, ?_, ?_, ?_, ?_⟩ <;> simp [wK, wM, wI])
theorem w_in {d : Nat} (h : d + 1 ≤ 3) : 11 * wK (d + 1) + 7 * ((wM (d + 1) : Int) - 1) + 6 ≤ wK d ∧ wI (d + 1) = 2 * (wM d * wI d) + 3 := by
  rcases d with _ | _ | _ | d <;> first | (exact absurd h (by omega)) | (refine ⟨?_, ?_⟩ <;> simp [wK, wM, wI])
theorem w_four {d : Nat} (h : d ≤ 3) : atI [D.int 9, D.int 4, D.int 3, D.int 3] (3 - (d : Int)) = some (.int ((wM d : Int) + 1)) := by
  rcases d with _ | _ | _ | _ | d <;> first | (exact absurd h (by omega)) | rfl
def W_law_words_1_3 (SPr : Spec) : WS :=
  (wIfS (wAnd (wtOn (wOp (gEq false) (wVar 6) (wC (.int 4)))) (wtOn (wOp (gCmp fun i j => decide (j < i)) (wVar 1) (wC (.int 0)))))
  (wsSet 3 (wOp gAdd (wOp gAdd (wOp gAdd (wOp gAdd (wVar 3) (wC (.str "("))) (wCall SPr (wCons (wVar 0) (wCons (wOp (gInt0 fun i j => i - j) (wVar 1) (wC (.int 1))) (wCons (wOp gAdd (wVar 5) (wC (.int 2))) wNil))))) (wC (.str ")"))) (wSl (wVar 7) woNone (woSome (wC (.int 2))))))
  (wIfS (wAnd (wtOn (wOp (gEq false) (wVar 6) (wC (.int 5)))) (wtOn (wOp (gCmp fun i j => decide (j < i)) (wVar 1) (wC (.int 0)))))
  (wSeqS (wsSet 8 (wCall SPr (wCons (wVar 0) (wCons (wOp (gInt0 fun i j => i - j) (wVar 1) (wC (.int 1))) (wCons (wOp gAdd (wVar 5) (wC (.int 3))) wNil)))))
  (wsSet 3 (wOp gAdd (wOp gAdd (wOp gAdd (wOp gAdd (wOp gAdd (wVar 3) (wC (.str "["))) (wVar 8)) (wC (.str ","))) (wCall SPr (wCons (wVar 0) (wCons (wOp (gInt0 fun i j => i - j) (wVar 1) (wC (.int 1))) (wCons (wOp gAdd (wVar 5) (wC (.int 5))) wNil))))) (wC (.str "]")))))
  (wsSet 3 (wOp gAdd (wOp gAdd (wVar 3) (wOp gIdx (wC (.str "abcdefghijklmnopqrstuvwxyz")) (wOp (gInt (fun _ j => 0 < j) fun i j => i % j) (wCall SP_law_mix (wCons (wVar 0) (wCons (wOp gAdd (wVar 5) (wC (.int 2))) wNil))) (wC (.int 26))))) (wVar 7)))))
def W_law_words (SPr : Spec) : WS :=
  (wSeqS (wsSet 3 (wC (.str "")))
  (wSeqS (wFor (wRng1 (wOp (gInt (fun _ j => 0 < j) fun i j => i % j) (wCall SP_law_mix (wCons (wVar 0) (wCons (wVar 2) wNil))) (wOp gIdx (wNew (wLst (wCons (wC (.int 9)) (wCons (wC (.int 4)) (wCons (wC (.int 3)) (wCons (wC (.int 3)) wNil)))))) (wOp (gInt0 fun i j => i - j) (wC (.int 3)) (wVar 1))))) (wgName 4)
  (wSeqS (wsSet 5 (wOp gAdd (wOp gAdd (wOp gMul (wC (.int 11)) (wVar 2)) (wOp gMul (wC (.int 7)) (wVar 4))) (wC (.int 1))))
  (wSeqS (wsSet 6 (wOp (gInt (fun _ j => 0 < j) fun i j => i % j) (wCall SP_law_mix (wCons (wVar 0) (wCons (wVar 5) wNil))) (wC (.int 6))))
  (wSeqS (wsSet 7 (wOp gIdx (wNew (wLst (wCons (wC (.str "")) (wCons (wC (.str "2")) (wCons (wC (.str "-1")) (wCons (wC (.str "0")) (wCons (wC (.str "12")) (wCons (wC (.str "-30")) wNil)))))))) (wOp (gInt (fun _ j => 0 < j) fun i j => i % j) (wCall SP_law_mix (wCons (wVar 0) (wCons (wOp gAdd (wVar 5) (wC (.int 1))) wNil))) (wC (.int 6)))))
  (W_law_words_1_3 SPr)))))
  (wsRet (wVar 3))))
theorem words_in {q : DEnds} {n d : Nat} {cell k j at_ kind : Int} {w m : List Nat} {s8 : Sl} (hd : d ≤ 3) (hdn : d < n + 1) (k0 : 0 ≤ k) (hk : k ≤ wK d) (a0 : 0 ≤ at_) (a1 : at_ ≤ 11 * k + 7 * ((wM d : Int) - 1) + 1) (hw : w.length ≤ 1000000) (hm : m.length ≤ 3)
    (hq : ∀ (w' : List Nat) (s8 : Sl), w'.length ≤ w.length + wI d → q.nx [.fz (.int cell), .fz (.int d), .fz (.int k), .fz (.str (tx w')), .fz (.int j), .fz (.int at_), .fz (.int kind), .fz (.str (tx m)), s8]) :
    W_law_words_1_3 (SP_law_words n) q [.fz (.int cell), .fz (.int d), .fz (.int k), .fz (.str (tx w)), .fz (.int j), .fz (.int at_), .fz (.int kind), .fz (.str (tx m)), s8] := by
  obtain ⟨t1, t2, t3, t4, t5⟩ := w_top hd
  have cm : Str.ofString "," = tx [44] := by decide +kernel
  simp only [W_law_words_1_3, wVar, wOwn, wC, wOp, onBl, wtOn, wChain, trD, wtVal, wtNot, wAnd, wOr, wAndV, wOrV, wNotV, wIf, wNil, wCons, wTup, wLst, wUn, wNew, gAdd, gInt, gInt0, gMul, gCatF, gRepF, wOpF, gEq, gCmp, gInS, gIsN, isN, gIsB, gIdx, woNone, woSome, gSl, wSl, gSlF, wSlF, wB, wBF, gLen, gInt1, gInt2, gToInt, gListF, tyName, gIsT, wIsT, wCall, Rt.d, Cn.d, onNew, wCallF, wCallN, wCallNF, nlR, wgName, wgNil, wgCons, wgTup, wSeq, wSeqT, wSigns, wRng1, wRng2, wRng3, wRev, wEnum, wZip, wLc, wtYes, wsNil, wsBrk, wsCnt, wsExpr, wsRet, wsRetF, wsRetOwn, wsRetN, wIfS, wsSet, wsSetF, wsAsg, wsPar, wsAug, gApp, gExt, gPop0, gRev, wMut, wsSetIx, wFor, wsRaise, wSeqS, wFrz, wsCallM, wsPopAdd, endsOf, endM, endsM, startM, startE, wipeE, smallI, CPow, Br_true, Br_false, Br_not, rngD_eq, dC, dP, dI, ex_atI_map, atI0, atI1, atI2, kit1, kit2, kit3, kit4, kit5, kit6, kit7, kit8, kit9, kit10, kit11, kit12, kit13, kit14, kit15, kit16, kit17, kit18, kit19, kit20, kit21, kit22, kit23, kit24, kit25, kit26, kit27, kit28, kit29, kit30, kit31, kit32, kit33, kit34, kit35, sizeLine_eq, true_and, and_true, exists_eq_left', Option.some.injEq, List.map_cons, List.map_nil, List.length_cons, List.length_nil, List.length_map, List.length_append, List.cons_append, List.nil_append, List.set_cons_zero, List.set_cons_succ, List.getElem?_cons_zero, List.getElem?_cons_succ, List.getElem?_nil, Nat.reduceSub, Nat.reduceAdd, Nat.zero_add, Nat.sub_self, List.replicate_succ, List.replicate_zero, Bool.false_bne, Bool.true_bne, Bool.false_xor, Bool.true_xor, Bool.not_true, Bool.not_false, Bool.not_not, beq_self_eq_true, Bool.and_true, Bool.true_and, nl, nls, decide_true, decide_false, exists_eq_left, Bool.false_eq_true, Option.some_inj, Int.reduceToNat, Int.reducePow, Int.reduceMul, Int.reduceSub, Int.reduceAdd, Int.reduceNeg, Nat.reducePow, Nat.reduceLeDiff, Int.reduceLE, Int.reduceLT, Int.reduceAbs, Int.natAbs_neg, Nat.reduceLT, divW_eq, mulW_eq, Bool.or_true, Bool.true_or, cut_map, ← List.map_append, ← List.map_reverse, castN, eq_self, Int.reduceEq, deqC, deq_self, rep_map, nls_dP, wsAugIx, tx_cps, tx_len, tx_app, tx_one, tx_nil, tx_cut, tx_signs, tx_rep, lit_empty, tx_inj, wJoin, gJoin, wmCall, wmOpL, wmOpR, wmIxR, wmTup2, wsSetM, wsAppM, wForM, gSum, gAny, gAll, gLtD, gInT, gSorted, gAddT, wThaw, gMaxL, wIsE, wIsV, wCallE, wTry, DEnds.off, gInB, wDct0, wCntB, wIdxB, wTryF, gEqO, gInI, gIns, gTup, wDct1, gEqR, wFld, wsSetFld, wsAddFld, isO_rfl, wMeth, wMethF, wMethN, wmMeth, wsExprM, wsRetM, wmOne, wmCons, wMake, wmMake, wsSetMk, gToIntS, endsO, endO, startO, List.getElem?_cons_succ, wTryM, wIsO, rC, lt_lp, lt_rp, lt_lb, lt_rb, lt_cm, lt_mi, lt_0, lt_dg, ts_nt, gStr, wsSetV]
  refine Br.d (fun h0 => Br.d (fun h1 => ?_) (fun h1 => ?_)) (fun h0 => ?_)
  · obtain ⟨d, rfl⟩ : ∃ e, d = e + 1 := ⟨d - 1, by omega⟩
    obtain ⟨u1, u2⟩ := w_in hd
    have ed : ((d + 1 : Nat) : Int) - 1 = (d : Nat) := by omega
    rw [ed]
    walk_at "s"
    refine ⟨by omega, cell, at_ + 2, d, rfl, by omega, by omega, by omega, by omega, fun s hs => ?_⟩
    walk_at "s"
    have hc : (cut m none (some 2)).length ≤ 2 := by rw [cut_to (by omega)]; simp only [List.length_take]; omega
    refine ⟨by omega, by omega, by omega, by omega, hq _ _ ?_⟩
    simp only [List.length_append, List.length_cons, List.length_nil]
    omega
  all_goals
    simp only [Bool.false_xor]
    refine Br.d (fun h2 => Br.d (fun h3 => ?_) (fun h3 => ?_)) (fun h2 => ?_)
    · obtain ⟨d, rfl⟩ : ∃ e, d = e + 1 := ⟨d - 1, by omega⟩
      obtain ⟨u1, u2⟩ := w_in hd
      have ed : ((d + 1 : Nat) : Int) - 1 = (d : Nat) := by omega
      rw [ed]
      refine ⟨cell, at_ + 3, d, rfl, by omega, by omega, by omega, by omega, fun s hs => ?_⟩
      walk_at "s"
      rw [cm]
      walk_at "s"
      refine ⟨by omega, by omega, by omega, cell, at_ + 5, d, rfl, by omega, by omega, by omega, by omega, fun s2 hs2 => ?_⟩
      walk_at "s"
      refine ⟨by omega, by omega, hq _ _ ?_⟩
      simp only [List.length_append, List.length_cons, List.length_nil]
      omega
    all_goals
      refine ⟨cell, at_ + 2, rfl, by omega, by omega, fun v v0 v1 => ?_⟩
      walk_at "s"
      obtain ⟨ch, e, _⟩ := atI_in (xs := (Str.ofString "abcdefghijklmnopqrstuvwxyz").cps.toList) (i := v % 26) (by omega) (by rw [az_len]; omega)
      have z1 := az_sz
      refine ⟨z1, ch, e, ?_⟩
      walk_at "s"
      refine ⟨by omega, by omega, hq _ _ ?_⟩
      simp only [List.length_append, List.length_cons, List.length_nil]
      omega
theorem pure_law_words (n : Nat) (ds : List D) (x : XS) (R : Rt → Prop) (h : SP_law_words (n + 1) ds x R) : W_law_words (SP_law_words n) (endsOf R x) (startE 9 ds) := by
  obtain ⟨cell, k, d, rfl, hd, hdn, k0, hk, q⟩ := h
  obtain ⟨t1, t2, t3, t4, t5⟩ := w_top hd
  simp only [W_law_words, wVar, wOwn, wC, wOp, onBl, wtOn, wChain, trD, wtVal, wtNot, wAnd, wOr, wAndV, wOrV, wNotV, wIf, wNil, wCons, wTup, wLst, wUn, wNew, gAdd, gInt, gInt0, gMul, gCatF, gRepF, wOpF, gEq, gCmp, gInS, gIsN, isN, gIsB, gIdx, woNone, woSome, gSl, wSl, gSlF, wSlF, wB, wBF, gLen, gInt1, gInt2, gToInt, gListF, tyName, gIsT, wIsT, wCall, Rt.d, Cn.d, onNew, wCallF, wCallN, wCallNF, nlR, wgName, wgNil, wgCons, wgTup, wSeq, wSeqT, wSigns, wRng1, wRng2, wRng3, wRev, wEnum, wZip, wLc, wtYes, wsNil, wsBrk, wsCnt, wsExpr, wsRet, wsRetF, wsRetOwn, wsRetN, wIfS, wsSet, wsSetF, wsAsg, wsPar, wsAug, gApp, gExt, gPop0, gRev, wMut, wsSetIx, wFor, wsRaise, wSeqS, wFrz, wsCallM, wsPopAdd, endsOf, endM, endsM, startM, startE, wipeE, smallI, CPow, Br_true, Br_false, Br_not, rngD_eq, dC, dP, dI, ex_atI_map, atI0, atI1, atI2, kit1, kit2, kit3, kit4, kit5, kit6, kit7, kit8, kit9, kit10, kit11, kit12, kit13, kit14, kit15, kit16, kit17, kit18, kit19, kit20, kit21, kit22, kit23, kit24, kit25, kit26, kit27, kit28, kit29, kit30, kit31, kit32, kit33, kit34, kit35, sizeLine_eq, true_and, and_true, exists_eq_left', Option.some.injEq, List.map_cons, List.map_nil, List.length_cons, List.length_nil, List.length_map, List.length_append, List.cons_append, List.nil_append, List.set_cons_zero, List.set_cons_succ, List.getElem?_cons_zero, List.getElem?_cons_succ, List.getElem?_nil, Nat.reduceSub, Nat.reduceAdd, Nat.zero_add, Nat.sub_self, List.replicate_succ, List.replicate_zero, Bool.false_bne, Bool.true_bne, Bool.false_xor, Bool.true_xor, Bool.not_true, Bool.not_false, Bool.not_not, beq_self_eq_true, Bool.and_true, Bool.true_and, nl, nls, decide_true, decide_false, exists_eq_left, Bool.false_eq_true, Option.some_inj, Int.reduceToNat, Int.reducePow, Int.reduceMul, Int.reduceSub, Int.reduceAdd, Int.reduceNeg, Nat.reducePow, Nat.reduceLeDiff, Int.reduceLE, Int.reduceLT, Int.reduceAbs, Int.natAbs_neg, Nat.reduceLT, divW_eq, mulW_eq, Bool.or_true, Bool.true_or, cut_map, ← List.map_append, ← List.map_reverse, castN, eq_self, Int.reduceEq, deqC, deq_self, rep_map, nls_dP, wsAugIx, tx_cps, tx_len, tx_app, tx_one, tx_nil, tx_cut, tx_signs, tx_rep, lit_empty, tx_inj, wJoin, gJoin, wmCall, wmOpL, wmOpR, wmIxR, wmTup2, wsSetM, wsAppM, wForM, gSum, gAny, gAll, gLtD, gInT, gSorted, gAddT, wThaw, gMaxL, wIsE, wIsV, wCallE, wTry, DEnds.off, gInB, wDct0, wCntB, wIdxB, wTryF, gEqO, gInI, gIns, gTup, wDct1, gEqR, wFld, wsSetFld, wsAddFld, isO_rfl, wMeth, wMethF, wMethN, wmMeth, wsExprM, wsRetM, wmOne, wmCons, wMake, wmMake, wsSetMk, gToIntS, endsO, endO, startO, List.getElem?_cons_succ, wTryM, wIsO, rC, lt_lp, lt_rp, lt_lb, lt_rb, lt_cm, lt_mi, lt_0, lt_dg, ts_nt, gStr, wsSetV]
  refine ⟨cell, k, rfl, by omega, by omega, fun v v0 v1 => ?_⟩
  walk_at "s"
  refine ⟨_, w_four hd, ?_⟩
  walk_at "s"
  have m0 : 0 ≤ v % ((wM d : Int) + 1) := Int.emod_nonneg _ (by omega)
  have m1 : v % ((wM d : Int) + 1) < (wM d : Int) + 1 := Int.emod_lt_of_pos _ (by omega)
  have rl : (rng 0 1 (v % ((wM d : Int) + 1)).toNat).length ≤ wM d := by rw [rng_len]; omega
  refine ⟨by omega, by omega, ?_⟩
  refine loop_ind (S := List Nat × Sl × Sl × Sl × Sl × Sl) D.int (fun s => [.fz (.int cell), .fz (.int d), .fz (.int k), .fz (.str (tx s.1)), s.2.1, s.2.2.1, s.2.2.2.1, s.2.2.2.2.1, s.2.2.2.2.2])
    (fun r s => s.1.length + wI d * r.length ≤ wM d * wI d ∧ ∀ j ∈ r, 0 ≤ j ∧ j < wM d) ?_ ?_ _ ([], .un, .un, .un, .un, .un) ⟨?_, fun j hj => ?_⟩
  · rintro ⟨w, s4, s5, s6, s7, s8⟩ ⟨h1, _⟩
    walk_at "s"
    refine q w ?_
    simp only [List.length_nil] at h1
    omega
  · rintro j r ⟨w, s4, s5, s6, s7, s8⟩ K ⟨h1, h2⟩ ih
    obtain ⟨j0, j1⟩ := h2 j (.head _)
    simp only [List.length_cons, Nat.mul_add, Nat.mul_one] at h1
    have hwm : wM d * wI d ≤ 8 * 477 := Nat.mul_le_mul t3 t5
    walk_at "s"
    have kb : k ≤ 100000 := by omega
    refine ⟨mulW (by omega) (by omega), mulW (by omega) (by omega), cell, _, rfl, by omega, by omega, fun v v0 v1 => ?_⟩
    walk_at "s"
    refine ⟨cell, _, rfl, by omega, by omega, fun u u0 u1 => ?_⟩
    walk_at "s"
    obtain ⟨m, hm, lm⟩ := strs_at (l := [tx [], Str.ofString "2", Str.ofString "-1", tx [48], Str.ofString "12", Str.ofString "-30"]) (i := u % 6) (b := 3) (by omega) (by show u % 6 < 6; omega) (by decide +kernel)
    refine ⟨_, hm, ?_⟩
    refine words_in hd hdn k0 hk (by omega) (by omega) (by omega) lm fun w' s8 hw' => ih (w', _, _, _, _, _) ⟨?_, fun j hj => h2 j (.tail _ hj)⟩
    simp only
    omega
  · simp only [List.length_nil]
    have := Nat.mul_le_mul_left (wI d) rl
    rw [Nat.mul_comm (wM d)]
    omega
  · obtain ⟨i, hi, rfl⟩ := mem_rng hj
    omega
--@ law_at
def SP_law_at : Spec := fun ds _ R => ∃ ns k, ds = [.scr ns, .int k] ∧ 0 ≤ k ∧ R (.val (.int (ns.getD k.toNat 0)))
theorem len_law_at (ds : List D) (x : XS) (R : Rt → Prop) (h : SP_law_at ds x R) : ds.length = ["_law_script", "_law_k"].length := by
  obtain ⟨ns, k, rfl, _⟩ := h; rfl
def W_law_at : WS :=
  (wSeqS (wIfS (wtOn (wOp (gCmp fun i j => decide (i < j)) (wVar 1) (wB gLen (wCons (wVar 0) wNil))))
  (wsRet (wOp gIdx (wVar 0) (wVar 1)))
  wsNil)
  (wsRet (wC (.int 0))))
theorem pure_law_at (ds : List D) (x : XS) (R : Rt → Prop) (h : SP_law_at ds x R) : W_law_at (endsOf R x) (startE 2 ds) := by
  obtain ⟨ns, k, rfl, hk, q⟩ := h
  simp only [W_law_at, wVar, wOwn, wC, wOp, onBl, wtOn, wChain, trD, wtVal, wtNot, wAnd, wOr, wAndV, wOrV, wNotV, wIf, wNil, wCons, wTup, wLst, wUn, wNew, gAdd, gInt, gInt0, gMul, gCatF, gRepF, wOpF, gEq, gCmp, gInS, gIsN, isN, gIsB, gIdx, woNone, woSome, gSl, wSl, gSlF, wSlF, wB, wBF, gLen, gInt1, gInt2, gToInt, gListF, tyName, gIsT, wIsT, wCall, Rt.d, Cn.d, onNew, wCallF, wCallN, wCallNF, nlR, wgName, wgNil, wgCons, wgTup, wSeq, wSeqT, wSigns, wRng1, wRng2, wRng3, wRev, wEnum, wZip, wLc, wtYes, wsNil, wsBrk, wsCnt, wsExpr, wsRet, wsRetF, wsRetOwn, wsRetN, wIfS, wsSet, wsSetF, wsAsg, wsPar, wsAug, gApp, gExt, gPop0, gRev, wMut, wsSetIx, wFor, wsRaise, wSeqS, wFrz, wsCallM, wsPopAdd, endsOf, endM, endsM, startM, startE, wipeE, smallI, CPow, Br_true, Br_false, Br_not, rngD_eq, dC, dP, dI, ex_atI_map, atI0, atI1, atI2, kit1, kit2, kit3, kit4, kit5, kit6, kit7, kit8, kit9, kit10, kit11, kit12, kit13, kit14, kit15, kit16, kit17, kit18, kit19, kit20, kit21, kit22, kit23, kit24, kit25, kit26, kit27, kit28, kit29, kit30, kit31, kit32, kit33, kit34, kit35, sizeLine_eq, true_and, and_true, exists_eq_left', Option.some.injEq, List.map_cons, List.map_nil, List.length_cons, List.length_nil, List.length_map, List.length_append, List.cons_append, List.nil_append, List.set_cons_zero, List.set_cons_succ, List.getElem?_cons_zero, List.getElem?_cons_succ, List.getElem?_nil, Nat.reduceSub, Nat.reduceAdd, Nat.zero_add, Nat.sub_self, List.replicate_succ, List.replicate_zero, Bool.false_bne, Bool.true_bne, Bool.false_xor, Bool.true_xor, Bool.not_true, Bool.not_false, Bool.not_not, beq_self_eq_true, Bool.and_true, Bool.true_and, nl, nls, decide_true, decide_false, exists_eq_left, Bool.false_eq_true, Option.some_inj, Int.reduceToNat, Int.reducePow, Int.reduceMul, Int.reduceSub, Int.reduceAdd, Int.reduceNeg, Nat.reducePow, Nat.reduceLeDiff, Int.reduceLE, Int.reduceLT, Int.reduceAbs, Int.natAbs_neg, Nat.reduceLT, divW_eq, mulW_eq, Bool.or_true, Bool.true_or, cut_map, ← List.map_append, ← List.map_reverse, castN, eq_self, Int.reduceEq, deqC, deq_self, rep_map, nls_dP, wsAugIx, tx_cps, tx_len, tx_app, tx_one, tx_nil, tx_cut, tx_signs, tx_rep, lit_empty, tx_inj, wJoin, gJoin, wmCall, wmOpL, wmOpR, wmIxR, wmTup2, wsSetM, wsAppM, wForM, gSum, gAny, gAll, gLtD, gInT, gSorted, gAddT, wThaw, gMaxL, wIsE, wIsV, wCallE, wTry, DEnds.off, gInB, wDct0, wCntB, wIdxB, wTryF, gEqO, gInI, gIns, gTup, wDct1, gEqR, wFld, wsSetFld, wsAddFld, isO_rfl, wMeth, wMethF, wMethN, wmMeth, wsExprM, wsRetM, wmOne, wmCons, wMake, wmMake, wsSetMk, gToIntS, endsO, endO, startO, List.getElem?_cons_succ, wTryM, wIsO, rC, lt_lp, lt_rp, lt_lb, lt_rb, lt_cm, lt_mi, lt_0, lt_dg, ts_nt, gStr, wsSetV]
  refine Br.d (fun h => ?_) (fun h => ?_)
  · walk_at "s"
    refine ⟨_, atI_at (j := k.toNat) (by omega) (by omega), ?_⟩
    rwa [List.getD_eq_getElem?_getD, List.getElem?_eq_getElem (by omega)] at q
  · walk_at "s"
    rwa [List.getD_eq_getElem?_getD, List.getElem?_eq_none (by omega)] at q
--@ law_within
def SP_law_within : Spec := fun ds _ R => ∃ (w : List Nat) (many cell : Int), ds = [.str (tx w), .int many, .int cell] ∧ w.length ≤ 1000000 ∧ 0 ≤ many ∧ many ≤ 40 ∧ ∀ s : List Nat, (s.length : Int) ≤ w.length + 6 * many → R (.val (.str (tx s)))
theorem len_law_within (ds : List D) (x : XS) (R : Rt → Prop) (h : SP_law_within ds x R) : ds.length = ["_law_words_here", "_law_many", "_law_cell"].length := by
  obtain ⟨w, k, d, rfl, _⟩ := h; rfl
def W_law_within : WS :=
  (wSeqS (wFor (wRng1 (wVar 1)) (wgName 3)
  (wIfS (wtOn (wOp (gEq false) (wOp (gInt (fun _ j => 0 < j) fun i j => i % j) (wCall SP_law_mix (wCons (wVar 2) (wCons (wVar 3) wNil))) (wC (.int 2))) (wC (.int 0))))
  (wsSet 0 (wOp gAdd (wOp gAdd (wC (.str "(")) (wVar 0)) (wC (.str ")"))))
  (wsSet 0 (wOp gAdd (wOp gIdx (wNew (wLst (wCons (wOp gAdd (wOp gAdd (wC (.str "[")) (wVar 0)) (wC (.str ",]"))) (wCons (wOp gAdd (wOp gAdd (wC (.str "[,")) (wVar 0)) (wC (.str "]"))) wNil)))) (wOp (gInt (fun _ j => 0 < j) fun i j => i % j) (wOp (gInt CDivW fun i j => i / j) (wCall SP_law_mix (wCons (wVar 2) (wCons (wVar 3) wNil))) (wC (.int 2))) (wC (.int 2)))) (wC (.str "()0"))))))
  (wsRet (wVar 0)))
theorem pure_law_within (ds : List D) (x : XS) (R : Rt → Prop) (h : SP_law_within ds x R) : W_law_within (endsOf R x) (startE 4 ds) := by
  obtain ⟨w, many, cell, rfl, hw, m0, m1, q⟩ := h
  have l1 : Str.ofString ",]" = tx [44, 93] := by decide +kernel
  have l2 : Str.ofString "[," = tx [91, 44] := by decide +kernel
  have l3 : Str.ofString "()0" = tx [40, 41, 48] := by decide +kernel
  simp only [W_law_within, wVar, wOwn, wC, wOp, onBl, wtOn, wChain, trD, wtVal, wtNot, wAnd, wOr, wAndV, wOrV, wNotV, wIf, wNil, wCons, wTup, wLst, wUn, wNew, gAdd, gInt, gInt0, gMul, gCatF, gRepF, wOpF, gEq, gCmp, gInS, gIsN, isN, gIsB, gIdx, woNone, woSome, gSl, wSl, gSlF, wSlF, wB, wBF, gLen, gInt1, gInt2, gToInt, gListF, tyName, gIsT, wIsT, wCall, Rt.d, Cn.d, onNew, wCallF, wCallN, wCallNF, nlR, wgName, wgNil, wgCons, wgTup, wSeq, wSeqT, wSigns, wRng1, wRng2, wRng3, wRev, wEnum, wZip, wLc, wtYes, wsNil, wsBrk, wsCnt, wsExpr, wsRet, wsRetF, wsRetOwn, wsRetN, wIfS, wsSet, wsSetF, wsAsg, wsPar, wsAug, gApp, gExt, gPop0, gRev, wMut, wsSetIx, wFor, wsRaise, wSeqS, wFrz, wsCallM, wsPopAdd, endsOf, endM, endsM, startM, startE, wipeE, smallI, CPow, Br_true, Br_false, Br_not, rngD_eq, dC, dP, dI, ex_atI_map, atI0, atI1, atI2, kit1, kit2, kit3, kit4, kit5, kit6, kit7, kit8, kit9, kit10, kit11, kit12, kit13, kit14, kit15, kit16, kit17, kit18, kit19, kit20, kit21, kit22, kit23, kit24, kit25, kit26, kit27, kit28, kit29, kit30, kit31, kit32, kit33, kit34, kit35, sizeLine_eq, true_and, and_true, exists_eq_left', Option.some.injEq, List.map_cons, List.map_nil, List.length_cons, List.length_nil, List.length_map, List.length_append, List.cons_append, List.nil_append, List.set_cons_zero, List.set_cons_succ, List.getElem?_cons_zero, List.getElem?_cons_succ, List.getElem?_nil, Nat.reduceSub, Nat.reduceAdd, Nat.zero_add, Nat.sub_self, List.replicate_succ, List.replicate_zero, Bool.false_bne, Bool.true_bne, Bool.false_xor, Bool.true_xor, Bool.not_true, Bool.not_false, Bool.not_not, beq_self_eq_true, Bool.and_true, Bool.true_and, nl, nls, decide_true, decide_false, exists_eq_left, Bool.false_eq_true, Option.some_inj, Int.reduceToNat, Int.reducePow, Int.reduceMul, Int.reduceSub, Int.reduceAdd, Int.reduceNeg, Nat.reducePow, Nat.reduceLeDiff, Int.reduceLE, Int.reduceLT, Int.reduceAbs, Int.natAbs_neg, Nat.reduceLT, divW_eq, mulW_eq, Bool.or_true, Bool.true_or, cut_map, ← List.map_append, ← List.map_reverse, castN, eq_self, Int.reduceEq, deqC, deq_self, rep_map, nls_dP, wsAugIx, tx_cps, tx_len, tx_app, tx_one, tx_nil, tx_cut, tx_signs, tx_rep, lit_empty, tx_inj, wJoin, gJoin, wmCall, wmOpL, wmOpR, wmIxR, wmTup2, wsSetM, wsAppM, wForM, gSum, gAny, gAll, gLtD, gInT, gSorted, gAddT, wThaw, gMaxL, wIsE, wIsV, wCallE, wTry, DEnds.off, gInB, wDct0, wCntB, wIdxB, wTryF, gEqO, gInI, gIns, gTup, wDct1, gEqR, wFld, wsSetFld, wsAddFld, isO_rfl, wMeth, wMethF, wMethN, wmMeth, wsExprM, wsRetM, wmOne, wmCons, wMake, wmMake, wsSetMk, gToIntS, endsO, endO, startO, List.getElem?_cons_succ, wTryM, wIsO, rC, lt_lp, lt_rp, lt_lb, lt_rb, lt_cm, lt_mi, lt_0, lt_dg, ts_nt, gStr, wsSetV]
  refine ⟨by omega, ?_⟩
  have rl : (rng 0 1 many.toNat).length ≤ many.toNat := by rw [rng_len]; omega
  refine loop_ind (S := List Nat × Sl) D.int (fun s => [.fz (.str (tx s.1)), .fz (.int many), .fz (.int cell), s.2])
    (fun r s => (s.1.length : Int) + 6 * r.length ≤ w.length + 6 * many ∧ ∀ j ∈ r, 0 ≤ j ∧ j ≤ 40) ?_ ?_ _ (w, .un) ⟨?_, fun j hj => ?_⟩
  · rintro ⟨w, s4⟩ ⟨h1, _⟩
    walk_at "s"
    refine q w ?_
    simp only [List.length_nil] at h1
    omega
  · rintro j r ⟨w', s4⟩ K ⟨h1, h2⟩ ih
    obtain ⟨j0, j1⟩ := h2 j (.head _)
    simp only [List.length_cons] at h1
    walk_at "s"
    refine ⟨cell, _, rfl, by omega, by omega, fun v v0 v1 => ?_⟩
    walk_at "s"
    refine Br.d (fun h0 => ?_) (fun h0 => ?_)
    · walk_at "s"
      refine ⟨by omega, by omega, ih (_, _) ⟨?_, fun j hj => h2 j (.tail _ hj)⟩⟩
      simp only [List.length_append, List.length_cons, List.length_nil]
      omega
    · rw [l1, l2, l3]
      walk_at "s"
      refine ⟨by omega, by omega, by omega, by omega, cell, _, rfl, by omega, by omega, fun u u0 u1 => ?_⟩
      walk_at "s"
      obtain ⟨m, hm, lm⟩ := strs_at (l := [tx ([91] ++ w' ++ [44, 93]), tx ([91, 44] ++ w' ++ [93])]) (i := u / 2 % 2) (b := w'.length + 3) (by omega) (by show u / 2 % 2 < 2; omega) (fun z hz => by
        simp only [List.mem_cons, List.not_mem_nil, or_false] at hz
        rcases hz with rfl | rfl <;> rw [tx_cps] <;> simp)
      refine ⟨_, hm, ?_⟩
      walk_at "s"
      refine ⟨by omega, ih (_, _) ⟨?_, fun j hj => h2 j (.tail _ hj)⟩⟩
      simp only [List.length_append, List.length_cons, List.length_nil]
      omega
  · simp only
    omega
  · obtain ⟨i, hi, rfl⟩ := mem_rng hj
    omega
--@ law_any_sign
def SP_law_any_sign : Spec := fun ds _ R => ∃ cell : Int, ds = [.int cell] ∧ ∀ a : Nat, R (.val (.str (tx [a])))
theorem len_law_any_sign (ds : List D) (x : XS) (R : Rt → Prop) (h : SP_law_any_sign ds x R) : ds.length = ["_law_cell"].length := by
  obtain ⟨d, rfl, _⟩ := h; rfl
def W_law_any_sign : WS :=
  (wSeqS (wIfS (wtOn (wOp (gEq false) (wOp (gInt (fun _ j => 0 < j) fun i j => i % j) (wVar 0) (wC (.int 2))) (wC (.int 0))))
  (wsRet (wOp gIdx (wC (.str "abz(),[]-0123456789")) (wOp (gInt (fun _ j => 0 < j) fun i j => i % j) (wOp (gInt CDivW fun i j => i / j) (wVar 0) (wC (.int 2))) (wC (.int 19)))))
  wsNil)
  (wSeqS (wsSet 1 (wC (.str "ABCDEFGHIJKLMNOPQRSTUVWXYZ cdefghijklmnopqrstuvwxy")))
  (wSeqS (wsSet 1 (wOp gAdd (wVar 1) (wC (.str "!\"#$&'*+./:;<=>?@\\^_`{|}~\n\t"))))
  (wsRet (wOp gIdx (wVar 1) (wOp (gInt (fun _ j => 0 < j) fun i j => i % j) (wOp (gInt CDivW fun i j => i / j) (wVar 0) (wC (.int 2))) (wB gLen (wCons (wVar 1) wNil))))))))
theorem pure_law_any_sign (ds : List D) (x : XS) (R : Rt → Prop) (h : SP_law_any_sign ds x R) : W_law_any_sign (endsOf R x) (startE 2 ds) := by
  obtain ⟨cell, rfl, q⟩ := h
  simp only [W_law_any_sign, wVar, wOwn, wC, wOp, onBl, wtOn, wChain, trD, wtVal, wtNot, wAnd, wOr, wAndV, wOrV, wNotV, wIf, wNil, wCons, wTup, wLst, wUn, wNew, gAdd, gInt, gInt0, gMul, gCatF, gRepF, wOpF, gEq, gCmp, gInS, gIsN, isN, gIsB, gIdx, woNone, woSome, gSl, wSl, gSlF, wSlF, wB, wBF, gLen, gInt1, gInt2, gToInt, gListF, tyName, gIsT, wIsT, wCall, Rt.d, Cn.d, onNew, wCallF, wCallN, wCallNF, nlR, wgName, wgNil, wgCons, wgTup, wSeq, wSeqT, wSigns, wRng1, wRng2, wRng3, wRev, wEnum, wZip, wLc, wtYes, wsNil, wsBrk, wsCnt, wsExpr, wsRet, wsRetF, wsRetOwn, wsRetN, wIfS, wsSet, wsSetF, wsAsg, wsPar, wsAug, gApp, gExt, gPop0, gRev, wMut, wsSetIx, wFor, wsRaise, wSeqS, wFrz, wsCallM, wsPopAdd, endsOf, endM, endsM, startM, startE, wipeE, smallI, CPow, Br_true, Br_false, Br_not, rngD_eq, dC, dP, dI, ex_atI_map, atI0, atI1, atI2, kit1, kit2, kit3, kit4, kit5, kit6, kit7, kit8, kit9, kit10, kit11, kit12, kit13, kit14, kit15, kit16, kit17, kit18, kit19, kit20, kit21, kit22, kit23, kit24, kit25, kit26, kit27, kit28, kit29, kit30, kit31, kit32, kit33, kit34, kit35, sizeLine_eq, true_and, and_true, exists_eq_left', Option.some.injEq, List.map_cons, List.map_nil, List.length_cons, List.length_nil, List.length_map, List.length_append, List.cons_append, List.nil_append, List.set_cons_zero, List.set_cons_succ, List.getElem?_cons_zero, List.getElem?_cons_succ, List.getElem?_nil, Nat.reduceSub, Nat.reduceAdd, Nat.zero_add, Nat.sub_self, List.replicate_succ, List.replicate_zero, Bool.false_bne, Bool.true_bne, Bool.false_xor, Bool.true_xor, Bool.not_true, Bool.not_false, Bool.not_not, beq_self_eq_true, Bool.and_true, Bool.true_and, nl, nls, decide_true, decide_false, exists_eq_left, Bool.false_eq_true, Option.some_inj, Int.reduceToNat, Int.reducePow, Int.reduceMul, Int.reduceSub, Int.reduceAdd, Int.reduceNeg, Nat.reducePow, Nat.reduceLeDiff, Int.reduceLE, Int.reduceLT, Int.reduceAbs, Int.natAbs_neg, Nat.reduceLT, divW_eq, mulW_eq, Bool.or_true, Bool.true_or, cut_map, ← List.map_append, ← List.map_reverse, castN, eq_self, Int.reduceEq, deqC, deq_self, rep_map, nls_dP, wsAugIx, tx_cps, tx_len, tx_app, tx_one, tx_nil, tx_cut, tx_signs, tx_rep, lit_empty, tx_inj, wJoin, gJoin, wmCall, wmOpL, wmOpR, wmIxR, wmTup2, wsSetM, wsAppM, wForM, gSum, gAny, gAll, gLtD, gInT, gSorted, gAddT, wThaw, gMaxL, wIsE, wIsV, wCallE, wTry, DEnds.off, gInB, wDct0, wCntB, wIdxB, wTryF, gEqO, gInI, gIns, gTup, wDct1, gEqR, wFld, wsSetFld, wsAddFld, isO_rfl, wMeth, wMethF, wMethN, wmMeth, wsExprM, wsRetM, wmOne, wmCons, wMake, wmMake, wsSetMk, gToIntS, endsO, endO, startO, List.getElem?_cons_succ, wTryM, wIsO, rC, lt_lp, lt_rp, lt_lb, lt_rb, lt_cm, lt_mi, lt_0, lt_dg, ts_nt, gStr, wsSetV]
  refine Br.d (fun h0 => ?_) (fun h0 => ?_)
  · walk_at "s"
    obtain ⟨ch, e, _⟩ := atI_in (xs := (Str.ofString "abz(),[]-0123456789").cps.toList) (i := cell / 2 % 19) (by omega) (by rw [show (Str.ofString "abz(),[]-0123456789").cps.toList.length = 19 by decide +kernel]; omega)
    exact ⟨by decide +kernel, ch, e, q ch⟩
  · walk_at "s"
    have f1 : (Str.ofString "ABCDEFGHIJKLMNOPQRSTUVWXYZ cdefghijklmnopqrstuvwxy").length + (Str.ofString "!\"#$&'*+./:;<=>?@\\^_`{|}~\n\t").length ≤ 16777216 := by decide +kernel
    have f2 : (Str.ofString "ABCDEFGHIJKLMNOPQRSTUVWXYZ cdefghijklmnopqrstuvwxy" ++ Str.ofString "!\"#$&'*+./:;<=>?@\\^_`{|}~\n\t").length = 77 := by decide +kernel
    have f3 : (Str.ofString "ABCDEFGHIJKLMNOPQRSTUVWXYZ cdefghijklmnopqrstuvwxy" ++ Str.ofString "!\"#$&'*+./:;<=>?@\\^_`{|}~\n\t").cps.toList.length = 77 := by decide +kernel
    refine ⟨f1, ?_⟩
    clear f1
    generalize Str.ofString "ABCDEFGHIJKLMNOPQRSTUVWXYZ cdefghijklmnopqrstuvwxy" ++ Str.ofString "!\"#$&'*+./:;<=>?@\\^_`{|}~\n\t" = z at f2 f3 ⊢
    rw [f2]
    obtain ⟨ch, e, _⟩ := atI_in (xs := z.cps.toList) (i := cell / 2 % 77) (by omega) (by rw [f3]; omega)
    exact ⟨by omega, by omega, by omega, ch, e, q ch⟩
--@ law_odd
def SP_law_odd : Spec := fun ds _ R => ∃ cell : Int, ds = [.int cell] ∧ ∀ s : List Nat, s.length ≤ 32 → R (.val (.str (tx s)))
theorem len_law_odd (ds : List D) (x : XS) (R : Rt → Prop) (h : SP_law_odd ds x R) : ds.length = ["_law_cell"].length := by
  obtain ⟨d, rfl, _⟩ := h; rfl
def W_law_odd_2 : WS :=
  (wsRet (wOp gIdx (wVar 1) (wOp (gInt (fun _ j => 0 < j) fun i j => i % j) (wVar 0) (wC (.int 24)))))
def W_law_odd_1 : WS :=
  (wSeqS (wsSet 1 (wOp gAdd (wVar 1) (wNew (wLst (wCons (wC (.str "(a]")) (wCons (wC (.str "[a)")) (wCons (wC (.str "[a,b,c]")) (wCons (wC (.str "[a]")) (wCons (wC (.str "a,b")) (wCons (wC (.str "(a)-")) (wCons (wOp gAdd (wC (.str "a")) (wOp gMul (wC (.str "1")) (wC (.int 31)))) (wCons (wC (.str "A")) wNil))))))))))))
  W_law_odd_2)
def W_law_odd : WS :=
  (wSeqS (wsSet 1 (wNew (wLst (wCons (wC (.str "1")) (wCons (wC (.str "-")) (wCons (wC (.str "a-")) (wCons (wC (.str "a--1")) (wCons (wC (.str "a-0")) (wCons (wC (.str "a00")) (wCons (wC (.str "a01")) (wCons (wC (.str "a+1")) (wCons (wC (.str "a 1")) (wCons (wC (.str " a")) (wCons (wC (.str "a ")) (wCons (wC (.str "(")) (wCons (wC (.str ")")) (wCons (wC (.str "()")) (wCons (wC (.str "[,]")) (wCons (wC (.str "[]")) wNil)))))))))))))))))))
  W_law_odd_1)
theorem odd_2 {q : DEnds} {cell : Int} {l : List Str} (hl : l.length = 24) (hb : ∀ z ∈ l, z.cps.toList.length ≤ 32) (h : ∀ s : List Nat, s.length ≤ 32 → q.rt (.val (.str (tx s))) [.fz (.int cell), .fz (.lst (l.map D.str))]) : W_law_odd_2 q [.fz (.int cell), .fz (.lst (l.map D.str))] := by
  obtain ⟨z, hz, hm⟩ := atI_in (xs := l) (i := cell % 24) (by omega) (by rw [hl]; omega)
  simp only [W_law_odd_2, wVar, wOwn, wC, wOp, onBl, wtOn, wChain, trD, wtVal, wtNot, wAnd, wOr, wAndV, wOrV, wNotV, wIf, wNil, wCons, wTup, wLst, wUn, wNew, gAdd, gInt, gInt0, gMul, gCatF, gRepF, wOpF, gEq, gCmp, gInS, gIsN, isN, gIsB, gIdx, woNone, woSome, gSl, wSl, gSlF, wSlF, wB, wBF, gLen, gInt1, gInt2, gToInt, gListF, tyName, gIsT, wIsT, wCall, Rt.d, Cn.d, onNew, wCallF, wCallN, wCallNF, nlR, wgName, wgNil, wgCons, wgTup, wSeq, wSeqT, wSigns, wRng1, wRng2, wRng3, wRev, wEnum, wZip, wLc, wtYes, wsNil, wsBrk, wsCnt, wsExpr, wsRet, wsRetF, wsRetOwn, wsRetN, wIfS, wsSet, wsSetF, wsAsg, wsPar, wsAug, gApp, gExt, gPop0, gRev, wMut, wsSetIx, wFor, wsRaise, wSeqS, wFrz, wsCallM, wsPopAdd, endsOf, endM, endsM, startM, startE, wipeE, smallI, CPow, Br_true, Br_false, Br_not, rngD_eq, dC, dP, dI, ex_atI_map, atI0, atI1, atI2, kit1, kit2, kit3, kit4, kit5, kit6, kit7, kit8, kit9, kit10, kit11, kit12, kit13, kit14, kit15, kit16, kit17, kit18, kit19, kit20, kit21, kit22, kit23, kit24, kit25, kit26, kit27, kit28, kit29, kit30, kit31, kit32, kit33, kit34, kit35, sizeLine_eq, true_and, and_true, exists_eq_left', Option.some.injEq, List.map_cons, List.map_nil, List.length_cons, List.length_nil, List.length_map, List.length_append, List.cons_append, List.nil_append, List.set_cons_zero, List.set_cons_succ, List.getElem?_cons_zero, List.getElem?_cons_succ, List.getElem?_nil, Nat.reduceSub, Nat.reduceAdd, Nat.zero_add, Nat.sub_self, List.replicate_succ, List.replicate_zero, Bool.false_bne, Bool.true_bne, Bool.false_xor, Bool.true_xor, Bool.not_true, Bool.not_false, Bool.not_not, beq_self_eq_true, Bool.and_true, Bool.true_and, nl, nls, decide_true, decide_false, exists_eq_left, Bool.false_eq_true, Option.some_inj, Int.reduceToNat, Int.reducePow, Int.reduceMul, Int.reduceSub, Int.reduceAdd, Int.reduceNeg, Nat.reducePow, Nat.reduceLeDiff, Int.reduceLE, Int.reduceLT, Int.reduceAbs, Int.natAbs_neg, Nat.reduceLT, divW_eq, mulW_eq, Bool.or_true, Bool.true_or, cut_map, ← List.map_append, ← List.map_reverse, castN, eq_self, Int.reduceEq, deqC, deq_self, rep_map, nls_dP, wsAugIx, tx_cps, tx_len, tx_app, tx_one, tx_nil, tx_cut, tx_signs, tx_rep, lit_empty, tx_inj, wJoin, gJoin, wmCall, wmOpL, wmOpR, wmIxR, wmTup2, wsSetM, wsAppM, wForM, gSum, gAny, gAll, gLtD, gInT, gSorted, gAddT, wThaw, gMaxL, wIsE, wIsV, wCallE, wTry, DEnds.off, gInB, wDct0, wCntB, wIdxB, wTryF, gEqO, gInI, gIns, gTup, wDct1, gEqR, wFld, wsSetFld, wsAddFld, isO_rfl, wMeth, wMethF, wMethN, wmMeth, wsExprM, wsRetM, wmOne, wmCons, wMake, wmMake, wsSetMk, gToIntS, endsO, endO, startO, List.getElem?_cons_succ, wTryM, wIsO, rC, lt_lp, lt_rp, lt_lb, lt_rb, lt_cm, lt_mi, lt_0, lt_dg, ts_nt, gStr, wsSetV]
  exact ⟨z, hz, by rw [tx_of z]; exact h _ (hb z hm)⟩
theorem odd_1 {q : DEnds} {cell : Int} {l : List Str} (hl : l.length = 16) (hb : ∀ z ∈ l, z.cps.toList.length ≤ 32) (h : ∀ (l' : List Str) (s : List Nat), s.length ≤ 32 → q.rt (.val (.str (tx s))) [.fz (.int cell), .fz (.lst (l'.map D.str))]) : W_law_odd_1 q [.fz (.int cell), .fz (.lst (l.map D.str))] := by
  have h8 : ∀ z ∈ ([Str.ofString "(a]", Str.ofString "[a)", Str.ofString "[a,b,c]", Str.ofString "[a]", Str.ofString "a,b", Str.ofString "(a)-", Str.ofString "a" ++ srep 31 (Str.ofString "1"), Str.ofString "A"] : List Str), z.cps.toList.length ≤ 32 := by decide +kernel
  have fin := odd_2 (q := q) (cell := cell) (l := l ++ ([Str.ofString "(a]", Str.ofString "[a)", Str.ofString "[a,b,c]", Str.ofString "[a]", Str.ofString "a,b", Str.ofString "(a)-", Str.ofString "a" ++ srep 31 (Str.ofString "1"), Str.ofString "A"] : List Str)) (by rw [List.length_append, hl]; rfl) (fun z hz => by
    rcases List.mem_append.mp hz with hz | hz
    · exact hb z hz
    · exact h8 z hz) (h _)
  rw [List.map_append] at fin
  have e1 : (Str.ofString "1").length * 31 ≤ 16777216 := by decide +kernel
  have e2 : (Str.ofString "a").length + (srep 31 (Str.ofString "1")).length ≤ 16777216 := by decide +kernel
  have e3 : (8 : Nat) ≤ 16777216 := by omega
  have e4 : (l.map D.str).length + 8 ≤ 16777216 := by rw [List.length_map, hl]; omega
  simp only [W_law_odd_1, wVar, wOp, wSeqS, wsSet, wNew, wLst, wCons, wNil, wC, gAdd, gMul, Cn.d, sizeLine_eq, List.getElem?_cons_zero, List.getElem?_cons_succ, List.set_cons_zero, List.set_cons_succ]
  exact ⟨⟨by decide, by decide, e1⟩, e2, e3, e4, fin⟩
theorem pure_law_odd (ds : List D) (x : XS) (R : Rt → Prop) (h : SP_law_odd ds x R) : W_law_odd (endsOf R x) (startE 2 ds) := by
  obtain ⟨cell, rfl, q⟩ := h
  have fin := odd_1 (q := endsOf R x) (cell := cell) (l := ["1", "-", "a-", "a--1", "a-0", "a00", "a01", "a+1", "a 1", " a", "a ", "(", ")", "()", "[,]", "[]"]) rfl (by decide +kernel) fun _ s hs => q s hs
  refine And.intro (show 16 ≤ 16777216 by omega) fin
--@ law_spoiled
def SP_law_spoiled : Spec := fun ds _ R => ∃ (w : List Nat) (way spot cell : Int), ds = [.str (tx w), .int way, .int spot, .int cell] ∧ w.length ≤ 1000000 ∧ ∀ s : List Nat, s.length ≤ w.length + 32 → R (.val (.str (tx s)))
theorem len_law_spoiled (ds : List D) (x : XS) (R : Rt → Prop) (h : SP_law_spoiled ds x R) : ds.length = ["_law_words_here", "_law_way", "_law_spot", "_law_cell"].length := by
  obtain ⟨w, a, b, d, rfl, _⟩ := h; rfl
def W_law_spoiled_2 : WS :=
  (wSeqS (wIfS (wtOn (wOp (gInI false) (wVar 1) (wNew (wLst (wCons (wC (.int 3)) (wCons (wC (.int 4)) wNil))))))
  (wsRet (wOp gAdd (wOp gAdd (wSl (wVar 0) woNone (woSome (wVar 4))) (wCall SP_law_any_sign (wCons (wVar 3) wNil))) (wSl (wVar 0) (woSome (wOp gAdd (wVar 4) (wC (.int 1)))) woNone)))
  wsNil)
  (wSeqS (wIfS (wtOn (wOp (gEq false) (wVar 1) (wC (.int 5))))
  (wsRet (wOp gAdd (wSl (wVar 0) woNone (woSome (wVar 4))) (wSl (wVar 0) (woSome (wOp gAdd (wVar 4) (wC (.int 1)))) woNone)))
  wsNil)
  (wSeqS (wIfS (wtOn (wOp (gEq false) (wVar 1) (wC (.int 6))))
  (wsRet (wCall SP_law_odd (wCons (wVar 3) wNil)))
  wsNil)
  (wsRet (wVar 0)))))
def W_law_spoiled_1 : WS :=
  (wSeqS (wIfS (wtOn (wOp (gInI false) (wVar 1) (wNew (wLst (wCons (wC (.int 1)) (wCons (wC (.int 2)) wNil))))))
  (wsRet (wOp gAdd (wOp gAdd (wSl (wVar 0) woNone (woSome (wVar 4))) (wCall SP_law_any_sign (wCons (wVar 3) wNil))) (wSl (wVar 0) (woSome (wVar 4)) woNone)))
  wsNil)
  W_law_spoiled_2)
def W_law_spoiled : WS :=
  (wSeqS (wsSet 4 (wOp (gInt (fun _ j => 0 < j) fun i j => i % j) (wVar 2) (wOp gAdd (wB gLen (wCons (wVar 0) wNil)) (wC (.int 1)))))
  W_law_spoiled_1)
theorem spoiled_2 {q : DEnds} {w : List Nat} {way spot cell a : Int} (hw : w.length ≤ 1000000) (a0 : 0 ≤ a) (a1 : a ≤ w.length) (h : ∀ (s : List Nat) ρ, s.length ≤ w.length + 32 → q.rt (.val (.str (tx s))) ρ) :
    W_law_spoiled_2 q [.fz (.str (tx w)), .fz (.int way), .fz (.int spot), .fz (.int cell), .fz (.int a)] := by
  have lt : (cut w none (some a)).length ≤ w.length := by rw [cut_to a0]; simp only [List.length_take]; omega
  have ld : (cut w (some (a + 1)) none).length ≤ w.length - a.toNat := by rw [cut_from (by omega)]; simp only [List.length_drop]; omega
  have la : (cut w none (some a)).length ≤ a.toNat := by rw [cut_to a0]; simp only [List.length_take]; omega
  simp only [W_law_spoiled_2, wVar, wOwn, wC, wOp, onBl, wtOn, wChain, trD, wtVal, wtNot, wAnd, wOr, wAndV, wOrV, wNotV, wIf, wNil, wCons, wTup, wLst, wUn, wNew, gAdd, gInt, gInt0, gMul, gCatF, gRepF, wOpF, gEq, gCmp, gInS, gIsN, isN, gIsB, gIdx, woNone, woSome, gSl, wSl, gSlF, wSlF, wB, wBF, gLen, gInt1, gInt2, gToInt, gListF, tyName, gIsT, wIsT, wCall, Rt.d, Cn.d, onNew, wCallF, wCallN, wCallNF, nlR, wgName, wgNil, wgCons, wgTup, wSeq, wSeqT, wSigns, wRng1, wRng2, wRng3, wRev, wEnum, wZip, wLc, wtYes, wsNil, wsBrk, wsCnt, wsExpr, wsRet, wsRetF, wsRetOwn, wsRetN, wIfS, wsSet, wsSetF, wsAsg, wsPar, wsAug, gApp, gExt, gPop0, gRev, wMut, wsSetIx, wFor, wsRaise, wSeqS, wFrz, wsCallM, wsPopAdd, endsOf, endM, endsM, startM, startE, wipeE, smallI, CPow, Br_true, Br_false, Br_not, rngD_eq, dC, dP, dI, ex_atI_map, atI0, atI1, atI2, kit1, kit2, kit3, kit4, kit5, kit6, kit7, kit8, kit9, kit10, kit11, kit12, kit13, kit14, kit15, kit16, kit17, kit18, kit19, kit20, kit21, kit22, kit23, kit24, kit25, kit26, kit27, kit28, kit29, kit30, kit31, kit32, kit33, kit34, kit35, sizeLine_eq, true_and, and_true, exists_eq_left', Option.some.injEq, List.map_cons, List.map_nil, List.length_cons, List.length_nil, List.length_map, List.length_append, List.cons_append, List.nil_append, List.set_cons_zero, List.set_cons_succ, List.getElem?_cons_zero, List.getElem?_cons_succ, List.getElem?_nil, Nat.reduceSub, Nat.reduceAdd, Nat.zero_add, Nat.sub_self, List.replicate_succ, List.replicate_zero, Bool.false_bne, Bool.true_bne, Bool.false_xor, Bool.true_xor, Bool.not_true, Bool.not_false, Bool.not_not, beq_self_eq_true, Bool.and_true, Bool.true_and, nl, nls, decide_true, decide_false, exists_eq_left, Bool.false_eq_true, Option.some_inj, Int.reduceToNat, Int.reducePow, Int.reduceMul, Int.reduceSub, Int.reduceAdd, Int.reduceNeg, Nat.reducePow, Nat.reduceLeDiff, Int.reduceLE, Int.reduceLT, Int.reduceAbs, Int.natAbs_neg, Nat.reduceLT, divW_eq, mulW_eq, Bool.or_true, Bool.true_or, cut_map, ← List.map_append, ← List.map_reverse, castN, eq_self, Int.reduceEq, deqC, deq_self, rep_map, nls_dP, wsAugIx, tx_cps, tx_len, tx_app, tx_one, tx_nil, tx_cut, tx_signs, tx_rep, lit_empty, tx_inj, wJoin, gJoin, wmCall, wmOpL, wmOpR, wmIxR, wmTup2, wsSetM, wsAppM, wForM, gSum, gAny, gAll, gLtD, gInT, gSorted, gAddT, wThaw, gMaxL, wIsE, wIsV, wCallE, wTry, DEnds.off, gInB, wDct0, wCntB, wIdxB, wTryF, gEqO, gInI, gIns, gTup, wDct1, gEqR, wFld, wsSetFld, wsAddFld, isO_rfl, wMeth, wMethF, wMethN, wmMeth, wsExprM, wsRetM, wmOne, wmCons, wMake, wmMake, wsSetMk, gToIntS, endsO, endO, startO, List.getElem?_cons_succ, wTryM, wIsO, rC, lt_lp, lt_rp, lt_lb, lt_rb, lt_cm, lt_mi, lt_0, lt_dg, ts_nt, gStr, wsSetV]
  refine ⟨[3, 4], rfl, Br.d (fun _ => ?_) (fun _ => ?_)⟩
  · walk_at "s"
    refine ⟨by omega, cell, rfl, fun ch => ?_⟩
    walk_at "s"
    refine ⟨by omega, by omega, by omega, h _ _ ?_⟩
    simp only [List.length_append, List.length_cons, List.length_nil]
    omega
  simp only [Bool.false_xor]
  refine Br.d (fun _ => ?_) (fun _ => ?_)
  · walk_at "s"
    refine ⟨by omega, by omega, by omega, h _ _ ?_⟩
    simp only [List.length_append]
    omega
  simp only [Bool.false_xor]
  refine Br.d (fun _ => ?_) (fun _ => h w _ (by omega))
  exact ⟨cell, rfl, fun s hs => h s _ (by omega)⟩
theorem spoiled_1 {q : DEnds} {w : List Nat} {way spot cell a : Int} (hw : w.length ≤ 1000000) (a0 : 0 ≤ a) (a1 : a ≤ w.length) (h : ∀ (s : List Nat) ρ, s.length ≤ w.length + 32 → q.rt (.val (.str (tx s))) ρ) :
    W_law_spoiled_1 q [.fz (.str (tx w)), .fz (.int way), .fz (.int spot), .fz (.int cell), .fz (.int a)] := by
  have rest := spoiled_2 (q := q) (way := way) (spot := spot) (cell := cell) hw a0 a1 h
  have ld : (cut w (some a) none).length ≤ w.length - a.toNat := by rw [cut_from (by omega)]; simp only [List.length_drop]; omega
  have la : (cut w none (some a)).length ≤ a.toNat := by rw [cut_to a0]; simp only [List.length_take]; omega
  simp only [W_law_spoiled_1, wVar, wOwn, wC, wOp, onBl, wtOn, wChain, trD, wtVal, wtNot, wAnd, wOr, wAndV, wOrV, wNotV, wIf, wNil, wCons, wTup, wLst, wUn, wNew, gAdd, gInt, gInt0, gMul, gCatF, gRepF, wOpF, gEq, gCmp, gInS, gIsN, isN, gIsB, gIdx, woNone, woSome, gSl, wSl, gSlF, wSlF, wB, wBF, gLen, gInt1, gInt2, gToInt, gListF, tyName, gIsT, wIsT, wCall, Rt.d, Cn.d, onNew, wCallF, wCallN, wCallNF, nlR, wgName, wgNil, wgCons, wgTup, wSeq, wSeqT, wSigns, wRng1, wRng2, wRng3, wRev, wEnum, wZip, wLc, wtYes, wsNil, wsBrk, wsCnt, wsExpr, wsRet, wsRetF, wsRetOwn, wsRetN, wIfS, wsSet, wsSetF, wsAsg, wsPar, wsAug, gApp, gExt, gPop0, gRev, wMut, wsSetIx, wFor, wsRaise, wSeqS, wFrz, wsCallM, wsPopAdd, endsOf, endM, endsM, startM, startE, wipeE, smallI, CPow, Br_true, Br_false, Br_not, rngD_eq, dC, dP, dI, ex_atI_map, atI0, atI1, atI2, kit1, kit2, kit3, kit4, kit5, kit6, kit7, kit8, kit9, kit10, kit11, kit12, kit13, kit14, kit15, kit16, kit17, kit18, kit19, kit20, kit21, kit22, kit23, kit24, kit25, kit26, kit27, kit28, kit29, kit30, kit31, kit32, kit33, kit34, kit35, sizeLine_eq, true_and, and_true, exists_eq_left', Option.some.injEq, List.map_cons, List.map_nil, List.length_cons, List.length_nil, List.length_map, List.length_append, List.cons_append, List.nil_append, List.set_cons_zero, List.set_cons_succ, List.getElem?_cons_zero, List.getElem?_cons_succ, List.getElem?_nil, Nat.reduceSub, Nat.reduceAdd, Nat.zero_add, Nat.sub_self, List.replicate_succ, List.replicate_zero, Bool.false_bne, Bool.true_bne, Bool.false_xor, Bool.true_xor, Bool.not_true, Bool.not_false, Bool.not_not, beq_self_eq_true, Bool.and_true, Bool.true_and, nl, nls, decide_true, decide_false, exists_eq_left, Bool.false_eq_true, Option.some_inj, Int.reduceToNat, Int.reducePow, Int.reduceMul, Int.reduceSub, Int.reduceAdd, Int.reduceNeg, Nat.reducePow, Nat.reduceLeDiff, Int.reduceLE, Int.reduceLT, Int.reduceAbs, Int.natAbs_neg, Nat.reduceLT, divW_eq, mulW_eq, Bool.or_true, Bool.true_or, cut_map, ← List.map_append, ← List.map_reverse, castN, eq_self, Int.reduceEq, deqC, deq_self, rep_map, nls_dP, wsAugIx, tx_cps, tx_len, tx_app, tx_one, tx_nil, tx_cut, tx_signs, tx_rep, lit_empty, tx_inj, wJoin, gJoin, wmCall, wmOpL, wmOpR, wmIxR, wmTup2, wsSetM, wsAppM, wForM, gSum, gAny, gAll, gLtD, gInT, gSorted, gAddT, wThaw, gMaxL, wIsE, wIsV, wCallE, wTry, DEnds.off, gInB, wDct0, wCntB, wIdxB, wTryF, gEqO, gInI, gIns, gTup, wDct1, gEqR, wFld, wsSetFld, wsAddFld, isO_rfl, wMeth, wMethF, wMethN, wmMeth, wsExprM, wsRetM, wmOne, wmCons, wMake, wmMake, wsSetMk, gToIntS, endsO, endO, startO, List.getElem?_cons_succ, wTryM, wIsO, rC, lt_lp, lt_rp, lt_lb, lt_rb, lt_cm, lt_mi, lt_0, lt_dg, ts_nt, gStr, wsSetV]
  refine ⟨[1, 2], rfl, Br.d (fun _ => ?_) (fun _ => rest)⟩
  walk_at "s"
  refine ⟨by omega, cell, rfl, fun ch => ?_⟩
  walk_at "s"
  refine ⟨by omega, by omega, by omega, h _ _ ?_⟩
  simp only [List.length_append, List.length_cons, List.length_nil]
  omega
theorem pure_law_spoiled (ds : List D) (x : XS) (R : Rt → Prop) (h : SP_law_spoiled ds x R) : W_law_spoiled (endsOf R x) (startE 5 ds) := by
  obtain ⟨w, way, spot, cell, rfl, hw, q⟩ := h
  have a0 : 0 ≤ spot % ((w.length : Int) + 1) := Int.emod_nonneg _ (by omega)
  have a1 : spot % ((w.length : Int) + 1) < (w.length : Int) + 1 := Int.emod_lt_of_pos _ (by omega)
  have rest := spoiled_1 (q := endsOf R x) (way := way) (spot := spot) (cell := cell) hw a0 (by omega) fun s _ => q s
  simp only [W_law_spoiled, wVar, wOwn, wC, wOp, onBl, wtOn, wChain, trD, wtVal, wtNot, wAnd, wOr, wAndV, wOrV, wNotV, wIf, wNil, wCons, wTup, wLst, wUn, wNew, gAdd, gInt, gInt0, gMul, gCatF, gRepF, wOpF, gEq, gCmp, gInS, gIsN, isN, gIsB, gIdx, woNone, woSome, gSl, wSl, gSlF, wSlF, wB, wBF, gLen, gInt1, gInt2, gToInt, gListF, tyName, gIsT, wIsT, wCall, Rt.d, Cn.d, onNew, wCallF, wCallN, wCallNF, nlR, wgName, wgNil, wgCons, wgTup, wSeq, wSeqT, wSigns, wRng1, wRng2, wRng3, wRev, wEnum, wZip, wLc, wtYes, wsNil, wsBrk, wsCnt, wsExpr, wsRet, wsRetF, wsRetOwn, wsRetN, wIfS, wsSet, wsSetF, wsAsg, wsPar, wsAug, gApp, gExt, gPop0, gRev, wMut, wsSetIx, wFor, wsRaise, wSeqS, wFrz, wsCallM, wsPopAdd, endsOf, endM, endsM, startM, startE, wipeE, smallI, CPow, Br_true, Br_false, Br_not, rngD_eq, dC, dP, dI, ex_atI_map, atI0, atI1, atI2, kit1, kit2, kit3, kit4, kit5, kit6, kit7, kit8, kit9, kit10, kit11, kit12, kit13, kit14, kit15, kit16, kit17, kit18, kit19, kit20, kit21, kit22, kit23, kit24, kit25, kit26, kit27, kit28, kit29, kit30, kit31, kit32, kit33, kit34, kit35, sizeLine_eq, true_and, and_true, exists_eq_left', Option.some.injEq, List.map_cons, List.map_nil, List.length_cons, List.length_nil, List.length_map, List.length_append, List.cons_append, List.nil_append, List.set_cons_zero, List.set_cons_succ, List.getElem?_cons_zero, List.getElem?_cons_succ, List.getElem?_nil, Nat.reduceSub, Nat.reduceAdd, Nat.zero_add, Nat.sub_self, List.replicate_succ, List.replicate_zero, Bool.false_bne, Bool.true_bne, Bool.false_xor, Bool.true_xor, Bool.not_true, Bool.not_false, Bool.not_not, beq_self_eq_true, Bool.and_true, Bool.true_and, nl, nls, decide_true, decide_false, exists_eq_left, Bool.false_eq_true, Option.some_inj, Int.reduceToNat, Int.reducePow, Int.reduceMul, Int.reduceSub, Int.reduceAdd, Int.reduceNeg, Nat.reducePow, Nat.reduceLeDiff, Int.reduceLE, Int.reduceLT, Int.reduceAbs, Int.natAbs_neg, Nat.reduceLT, divW_eq, mulW_eq, Bool.or_true, Bool.true_or, cut_map, ← List.map_append, ← List.map_reverse, castN, eq_self, Int.reduceEq, deqC, deq_self, rep_map, nls_dP, wsAugIx, tx_cps, tx_len, tx_app, tx_one, tx_nil, tx_cut, tx_signs, tx_rep, lit_empty, tx_inj, wJoin, gJoin, wmCall, wmOpL, wmOpR, wmIxR, wmTup2, wsSetM, wsAppM, wForM, gSum, gAny, gAll, gLtD, gInT, gSorted, gAddT, wThaw, gMaxL, wIsE, wIsV, wCallE, wTry, DEnds.off, gInB, wDct0, wCntB, wIdxB, wTryF, gEqO, gInI, gIns, gTup, wDct1, gEqR, wFld, wsSetFld, wsAddFld, isO_rfl, wMeth, wMethF, wMethN, wmMeth, wsExprM, wsRetM, wmOne, wmCons, wMake, wmMake, wsSetMk, gToIntS, endsO, endO, startO, List.getElem?_cons_succ, wTryM, wIsO, rC, lt_lp, lt_rp, lt_lb, lt_rb, lt_cm, lt_mi, lt_0, lt_dg, ts_nt, gStr, wsSetV]
  exact ⟨by omega, by omega, rest⟩
--@ law_number
def SP_law_number : Spec := fun ds _ R => ∃ (s : List Nat) (i : Nat), ds = [.str (tx s), .int (i : Nat)] ∧ i ≤ s.length ∧ s.length ≤ 1000000 ∧ (∀ k m, pAmt (s.drop i) = some (k, m) → R (.val (.tup [.int k, .int ((i + m : Nat) : Int)]))) ∧ (pAmt (s.drop i) = none → R (.val .non))
theorem len_law_number (ds : List D) (x : XS) (R : Rt → Prop) (h : SP_law_number ds x R) : ds.length = ["_law_words_here", "_law_at_here"].length := by
  obtain ⟨s, i, rfl, _⟩ := h; rfl
def W_law_number_7 : WS :=
  (wsRet (wTup (wCons (wB gToIntS (wCons (wSl (wVar 0) (woSome (wVar 1)) (woSome (wVar 2))) wNil)) (wCons (wVar 2) wNil))))
def W_law_number_6 : WS :=
  (wSeqS (wIfS (wOr (wtOn (wOp (gEq false) (wVar 4) (wC (.str "")))) (wOr (wtOn (wOp (gCmp fun i j => decide (j < i)) (wB gLen (wCons (wVar 4) wNil)) (wC (.int 30)))) (wAnd (wtOn (wOp (gEq false) (wOp gIdx (wVar 4) (wC (.int 0))) (wC (.str "0")))) (wtOn (wOp (gEq true) (wSl (wVar 0) (woSome (wVar 1)) (woSome (wVar 2))) (wC (.str "0")))))))
  (wsRet (wC .non))
  wsNil)
  W_law_number_7)
def W_law_number_5 : WS :=
  (wSeqS (wsSet 4 (wSl (wVar 0) (woSome (wVar 3)) (woSome (wVar 2))))
  W_law_number_6)
def W_law_number_4 : WS :=
  (wSeqS (wIfS (wtOn (wOp (gEq false) (wVar 2) (wVar 1)))
  (wsRet (wTup (wCons (wC (.int 1)) (wCons (wVar 1) wNil))))
  wsNil)
  W_law_number_5)
def W_law_number_3 : WS :=
  (wSeqS (wWhile (wAnd (wtOn (wOp (gEq true) (wSl (wVar 0) (woSome (wVar 2)) (woSome (wOp gAdd (wVar 2) (wC (.int 1))))) (wC (.str "")))) (wtOn (wOp (gInS false) (wOp gIdx (wVar 0) (wVar 2)) (wC (.str "0123456789")))))
  (wsSet 2 (wOp gAdd (wVar 2) (wC (.int 1)))))
  W_law_number_4)
def W_law_number_2 : WS :=
  (wSeqS (wsSet 3 (wVar 2))
  W_law_number_3)
def W_law_number : WS :=
  (wSeqS (wsSet 2 (wVar 1))
  (wSeqS (wIfS (wtOn (wOp (gEq false) (wSl (wVar 0) (woSome (wVar 2)) (woSome (wOp gAdd (wVar 2) (wC (.int 1))))) (wC (.str "-"))))
  (wsSet 2 (wOp gAdd (wVar 2) (wC (.int 1))))
  wsNil)
  W_law_number_2))
theorem num_4 {s f u : List Nat} {i p e : Nat} {l : Bool} {s4 : Sl} {x : XS} {R : Rt → Prop} (hf : NumText.AllDigits f) (hl : f.length ≤ 1000000) (hs : s.length ≤ 1000000) (hp : p = i + (if l then 1 else 0)) (he : e = p + f.length) (cu : cut s (some (i : Int)) (some (e : Int)) = u) (cf : cut s (some (p : Int)) (some (e : Int)) = f) (hu : u = if l then 45 :: f else f)
    (q1 : ∀ k, amtV l f = some k → R (.val (.tup [.int k, .int (e : Nat)]))) (q2 : amtV l f = none → R (.val .non)) :
    W_law_number_4 { nx := fun _ => R (.val .non), rt := fun r _ => R r, ex := x } [.fz (.str (tx s)), .fz (.int (i : Nat)), .fz (.int (e : Nat)), .fz (.int (p : Nat)), s4] := by
  simp only [W_law_number_4, wVar, wOwn, wC, wOp, onBl, wtOn, wChain, trD, wtVal, wtNot, wAnd, wOr, wAndV, wOrV, wNotV, wIf, wNil, wCons, wTup, wLst, wUn, wNew, gAdd, gInt, gInt0, gMul, gCatF, gRepF, wOpF, gEq, gCmp, gInS, gIsN, isN, gIsB, gIdx, woNone, woSome, gSl, wSl, gSlF, wSlF, wB, wBF, gLen, gInt1, gInt2, gToInt, gListF, tyName, gIsT, wIsT, wCall, Rt.d, Cn.d, onNew, wCallF, wCallN, wCallNF, nlR, wgName, wgNil, wgCons, wgTup, wSeq, wSeqT, wSigns, wRng1, wRng2, wRng3, wRev, wEnum, wZip, wLc, wtYes, wsNil, wsBrk, wsCnt, wsExpr, wsRet, wsRetF, wsRetOwn, wsRetN, wIfS, wsSet, wsSetF, wsAsg, wsPar, wsAug, gApp, gExt, gPop0, gRev, wMut, wsSetIx, wFor, wsRaise, wSeqS, wFrz, wsCallM, wsPopAdd, endsOf, endM, endsM, startM, startE, wipeE, smallI, CPow, Br_true, Br_false, Br_not, rngD_eq, dC, dP, dI, ex_atI_map, atI0, atI1, atI2, kit1, kit2, kit3, kit4, kit5, kit6, kit7, kit8, kit9, kit10, kit11, kit12, kit13, kit14, kit15, kit16, kit17, kit18, kit19, kit20, kit21, kit22, kit23, kit24, kit25, kit26, kit27, kit28, kit29, kit30, kit31, kit32, kit33, kit34, kit35, sizeLine_eq, true_and, and_true, exists_eq_left', Option.some.injEq, List.map_cons, List.map_nil, List.length_cons, List.length_nil, List.length_map, List.length_append, List.cons_append, List.nil_append, List.set_cons_zero, List.set_cons_succ, List.getElem?_cons_zero, List.getElem?_cons_succ, List.getElem?_nil, Nat.reduceSub, Nat.reduceAdd, Nat.zero_add, Nat.sub_self, List.replicate_succ, List.replicate_zero, Bool.false_bne, Bool.true_bne, Bool.false_xor, Bool.true_xor, Bool.not_true, Bool.not_false, Bool.not_not, beq_self_eq_true, Bool.and_true, Bool.true_and, nl, nls, decide_true, decide_false, exists_eq_left, Bool.false_eq_true, Option.some_inj, Int.reduceToNat, Int.reducePow, Int.reduceMul, Int.reduceSub, Int.reduceAdd, Int.reduceNeg, Nat.reducePow, Nat.reduceLeDiff, Int.reduceLE, Int.reduceLT, Int.reduceAbs, Int.natAbs_neg, Nat.reduceLT, divW_eq, mulW_eq, Bool.or_true, Bool.true_or, cut_map, ← List.map_append, ← List.map_reverse, castN, eq_self, Int.reduceEq, deqC, deq_self, rep_map, nls_dP, wsAugIx, tx_cps, tx_len, tx_app, tx_one, tx_nil, tx_cut, tx_signs, tx_rep, lit_empty, tx_inj, wJoin, gJoin, wmCall, wmOpL, wmOpR, wmIxR, wmTup2, wsSetM, wsAppM, wForM, gSum, gAny, gAll, gLtD, gInT, gSorted, gAddT, wThaw, gMaxL, wIsE, wIsV, wCallE, wTry, DEnds.off, gInB, wDct0, wCntB, wIdxB, wTryF, gEqO, gInI, gIns, gTup, wDct1, gEqR, wFld, wsSetFld, wsAddFld, isO_rfl, wMeth, wMethF, wMethN, wmMeth, wsExprM, wsRetM, wmOne, wmCons, wMake, wmMake, wsSetMk, gToIntS, endsO, endO, startO, List.getElem?_cons_succ, wTryM, wIsO, rC, lt_lp, lt_rp, lt_lb, lt_rb, lt_cm, lt_mi, lt_0, lt_dg, ts_nt, gStr, wsSetV]
  refine Br.d (fun h0 => ?_) (fun h0 => ?_)
  · have h0 : e = i := by omega
    have hl0 : l = false := by cases l <;> simp at hp ⊢; omega
    have hf0 : f = [] := List.length_eq_zero_iff.mp (by omega)
    subst hl0 hf0
    have := q1 1 amt_one
    rw [h0] at this
    walk_at "s"
    exact this
  simp only [W_law_number_5, wVar, wOwn, wC, wOp, onBl, wtOn, wChain, trD, wtVal, wtNot, wAnd, wOr, wAndV, wOrV, wNotV, wIf, wNil, wCons, wTup, wLst, wUn, wNew, gAdd, gInt, gInt0, gMul, gCatF, gRepF, wOpF, gEq, gCmp, gInS, gIsN, isN, gIsB, gIdx, woNone, woSome, gSl, wSl, gSlF, wSlF, wB, wBF, gLen, gInt1, gInt2, gToInt, gListF, tyName, gIsT, wIsT, wCall, Rt.d, Cn.d, onNew, wCallF, wCallN, wCallNF, nlR, wgName, wgNil, wgCons, wgTup, wSeq, wSeqT, wSigns, wRng1, wRng2, wRng3, wRev, wEnum, wZip, wLc, wtYes, wsNil, wsBrk, wsCnt, wsExpr, wsRet, wsRetF, wsRetOwn, wsRetN, wIfS, wsSet, wsSetF, wsAsg, wsPar, wsAug, gApp, gExt, gPop0, gRev, wMut, wsSetIx, wFor, wsRaise, wSeqS, wFrz, wsCallM, wsPopAdd, endsOf, endM, endsM, startM, startE, wipeE, smallI, CPow, Br_true, Br_false, Br_not, rngD_eq, dC, dP, dI, ex_atI_map, atI0, atI1, atI2, kit1, kit2, kit3, kit4, kit5, kit6, kit7, kit8, kit9, kit10, kit11, kit12, kit13, kit14, kit15, kit16, kit17, kit18, kit19, kit20, kit21, kit22, kit23, kit24, kit25, kit26, kit27, kit28, kit29, kit30, kit31, kit32, kit33, kit34, kit35, sizeLine_eq, true_and, and_true, exists_eq_left', Option.some.injEq, List.map_cons, List.map_nil, List.length_cons, List.length_nil, List.length_map, List.length_append, List.cons_append, List.nil_append, List.set_cons_zero, List.set_cons_succ, List.getElem?_cons_zero, List.getElem?_cons_succ, List.getElem?_nil, Nat.reduceSub, Nat.reduceAdd, Nat.zero_add, Nat.sub_self, List.replicate_succ, List.replicate_zero, Bool.false_bne, Bool.true_bne, Bool.false_xor, Bool.true_xor, Bool.not_true, Bool.not_false, Bool.not_not, beq_self_eq_true, Bool.and_true, Bool.true_and, nl, nls, decide_true, decide_false, exists_eq_left, Bool.false_eq_true, Option.some_inj, Int.reduceToNat, Int.reducePow, Int.reduceMul, Int.reduceSub, Int.reduceAdd, Int.reduceNeg, Nat.reducePow, Nat.reduceLeDiff, Int.reduceLE, Int.reduceLT, Int.reduceAbs, Int.natAbs_neg, Nat.reduceLT, divW_eq, mulW_eq, Bool.or_true, Bool.true_or, cut_map, ← List.map_append, ← List.map_reverse, castN, eq_self, Int.reduceEq, deqC, deq_self, rep_map, nls_dP, wsAugIx, tx_cps, tx_len, tx_app, tx_one, tx_nil, tx_cut, tx_signs, tx_rep, lit_empty, tx_inj, wJoin, gJoin, wmCall, wmOpL, wmOpR, wmIxR, wmTup2, wsSetM, wsAppM, wForM, gSum, gAny, gAll, gLtD, gInT, gSorted, gAddT, wThaw, gMaxL, wIsE, wIsV, wCallE, wTry, DEnds.off, gInB, wDct0, wCntB, wIdxB, wTryF, gEqO, gInI, gIns, gTup, wDct1, gEqR, wFld, wsSetFld, wsAddFld, isO_rfl, wMeth, wMethF, wMethN, wmMeth, wsExprM, wsRetM, wmOne, wmCons, wMake, wmMake, wsSetMk, gToIntS, endsO, endO, startO, List.getElem?_cons_succ, wTryM, wIsO, rC, lt_lp, lt_rp, lt_lb, lt_rb, lt_cm, lt_mi, lt_0, lt_dg, ts_nt, gStr, wsSetV]
  rw [cf]
  refine ⟨by omega, ?_⟩
  simp only [W_law_number_6, wVar, wOwn, wC, wOp, onBl, wtOn, wChain, trD, wtVal, wtNot, wAnd, wOr, wAndV, wOrV, wNotV, wIf, wNil, wCons, wTup, wLst, wUn, wNew, gAdd, gInt, gInt0, gMul, gCatF, gRepF, wOpF, gEq, gCmp, gInS, gIsN, isN, gIsB, gIdx, woNone, woSome, gSl, wSl, gSlF, wSlF, wB, wBF, gLen, gInt1, gInt2, gToInt, gListF, tyName, gIsT, wIsT, wCall, Rt.d, Cn.d, onNew, wCallF, wCallN, wCallNF, nlR, wgName, wgNil, wgCons, wgTup, wSeq, wSeqT, wSigns, wRng1, wRng2, wRng3, wRev, wEnum, wZip, wLc, wtYes, wsNil, wsBrk, wsCnt, wsExpr, wsRet, wsRetF, wsRetOwn, wsRetN, wIfS, wsSet, wsSetF, wsAsg, wsPar, wsAug, gApp, gExt, gPop0, gRev, wMut, wsSetIx, wFor, wsRaise, wSeqS, wFrz, wsCallM, wsPopAdd, endsOf, endM, endsM, startM, startE, wipeE, smallI, CPow, Br_true, Br_false, Br_not, rngD_eq, dC, dP, dI, ex_atI_map, atI0, atI1, atI2, kit1, kit2, kit3, kit4, kit5, kit6, kit7, kit8, kit9, kit10, kit11, kit12, kit13, kit14, kit15, kit16, kit17, kit18, kit19, kit20, kit21, kit22, kit23, kit24, kit25, kit26, kit27, kit28, kit29, kit30, kit31, kit32, kit33, kit34, kit35, sizeLine_eq, true_and, and_true, exists_eq_left', Option.some.injEq, List.map_cons, List.map_nil, List.length_cons, List.length_nil, List.length_map, List.length_append, List.cons_append, List.nil_append, List.set_cons_zero, List.set_cons_succ, List.getElem?_cons_zero, List.getElem?_cons_succ, List.getElem?_nil, Nat.reduceSub, Nat.reduceAdd, Nat.zero_add, Nat.sub_self, List.replicate_succ, List.replicate_zero, Bool.false_bne, Bool.true_bne, Bool.false_xor, Bool.true_xor, Bool.not_true, Bool.not_false, Bool.not_not, beq_self_eq_true, Bool.and_true, Bool.true_and, nl, nls, decide_true, decide_false, exists_eq_left, Bool.false_eq_true, Option.some_inj, Int.reduceToNat, Int.reducePow, Int.reduceMul, Int.reduceSub, Int.reduceAdd, Int.reduceNeg, Nat.reducePow, Nat.reduceLeDiff, Int.reduceLE, Int.reduceLT, Int.reduceAbs, Int.natAbs_neg, Nat.reduceLT, divW_eq, mulW_eq, Bool.or_true, Bool.true_or, cut_map, ← List.map_append, ← List.map_reverse, castN, eq_self, Int.reduceEq, deqC, deq_self, rep_map, nls_dP, wsAugIx, tx_cps, tx_len, tx_app, tx_one, tx_nil, tx_cut, tx_signs, tx_rep, lit_empty, tx_inj, wJoin, gJoin, wmCall, wmOpL, wmOpR, wmIxR, wmTup2, wsSetM, wsAppM, wForM, gSum, gAny, gAll, gLtD, gInT, gSorted, gAddT, wThaw, gMaxL, wIsE, wIsV, wCallE, wTry, DEnds.off, gInB, wDct0, wCntB, wIdxB, wTryF, gEqO, gInI, gIns, gTup, wDct1, gEqR, wFld, wsSetFld, wsAddFld, isO_rfl, wMeth, wMethF, wMethN, wmMeth, wsExprM, wsRetM, wmOne, wmCons, wMake, wmMake, wsSetMk, gToIntS, endsO, endO, startO, List.getElem?_cons_succ, wTryM, wIsO, rC, lt_lp, lt_rp, lt_lb, lt_rb, lt_cm, lt_mi, lt_0, lt_dg, ts_nt, gStr, wsSetV]
  by_cases hf0 : f = []
  · refine Br.t hf0 ?_
    subst hf0
    cases l with
    | false => exact absurd (by simp at hp he; omega) h0
    | true => exact q2 amt_no
  refine Br.f hf0 ?_
  walk_at "s"
  refine ⟨by omega, Br.d (fun h => ?_) (fun h => ?_)⟩
  · exact q2 (amt_wide hf0 (by omega))
  have h30 : ¬ 30 < f.length := by omega
  obtain ⟨a, r, ea⟩ := List.exists_cons_of_ne_nil hf0
  have hh : f.head? = some a := by rw [ea]; rfl
  have ha : atI f 0 = some a := by rw [ea]; exact atI0
  have bad := amt_bad (l := l) hf0 h30
  have val := amt_val (l := l) hf0 h30
  have fin : ¬ (f.head? = some 48 ∧ (l = true ∨ 1 < f.length)) → W_law_number_7 { nx := fun _ => R (.val .non), rt := fun r _ => R r, ex := x } [.fz (.str (tx s)), .fz (.int (i : Nat)), .fz (.int (e : Nat)), .fz (.int (p : Nat)), .fz (.str (tx f))] := fun hz => by
    have v := q1 _ (val fun z1 z2 => hz ⟨z1, z2⟩)
    have lu : u.length ≤ 31 := by
      rw [hu]
      cases l with
      | true => show (45 :: f).length ≤ 31; rw [List.length_cons]; omega
      | false => show f.length ≤ 31; omega
    have ii : intText? (tx u) = some (if l then -(NumText.digitsVal f : Int) else (NumText.digitsVal f : Int)) := by
      cases l with
      | true =>
        have hu : u = 45 :: f := hu
        exact intText_neg (x := tx u) (by rw [tx_cps, hu]) hf hf0 (by rw [tx_len]; omega)
      | false =>
        have hu : u = f := hu
        have := intText_digits (x := tx f) (by rw [tx_cps]; exact hf) (by rw [tx_cps]; exact hf0) (by rw [tx_len]; omega)
        rw [tx_cps] at this
        rw [hu]
        exact this
    simp only [W_law_number_7, wVar, wOwn, wC, wOp, onBl, wtOn, wChain, trD, wtVal, wtNot, wAnd, wOr, wAndV, wOrV, wNotV, wIf, wNil, wCons, wTup, wLst, wUn, wNew, gAdd, gInt, gInt0, gMul, gCatF, gRepF, wOpF, gEq, gCmp, gInS, gIsN, isN, gIsB, gIdx, woNone, woSome, gSl, wSl, gSlF, wSlF, wB, wBF, gLen, gInt1, gInt2, gToInt, gListF, tyName, gIsT, wIsT, wCall, Rt.d, Cn.d, onNew, wCallF, wCallN, wCallNF, nlR, wgName, wgNil, wgCons, wgTup, wSeq, wSeqT, wSigns, wRng1, wRng2, wRng3, wRev, wEnum, wZip, wLc, wtYes, wsNil, wsBrk, wsCnt, wsExpr, wsRet, wsRetF, wsRetOwn, wsRetN, wIfS, wsSet, wsSetF, wsAsg, wsPar, wsAug, gApp, gExt, gPop0, gRev, wMut, wsSetIx, wFor, wsRaise, wSeqS, wFrz, wsCallM, wsPopAdd, endsOf, endM, endsM, startM, startE, wipeE, smallI, CPow, Br_true, Br_false, Br_not, rngD_eq, dC, dP, dI, ex_atI_map, atI0, atI1, atI2, kit1, kit2, kit3, kit4, kit5, kit6, kit7, kit8, kit9, kit10, kit11, kit12, kit13, kit14, kit15, kit16, kit17, kit18, kit19, kit20, kit21, kit22, kit23, kit24, kit25, kit26, kit27, kit28, kit29, kit30, kit31, kit32, kit33, kit34, kit35, sizeLine_eq, true_and, and_true, exists_eq_left', Option.some.injEq, List.map_cons, List.map_nil, List.length_cons, List.length_nil, List.length_map, List.length_append, List.cons_append, List.nil_append, List.set_cons_zero, List.set_cons_succ, List.getElem?_cons_zero, List.getElem?_cons_succ, List.getElem?_nil, Nat.reduceSub, Nat.reduceAdd, Nat.zero_add, Nat.sub_self, List.replicate_succ, List.replicate_zero, Bool.false_bne, Bool.true_bne, Bool.false_xor, Bool.true_xor, Bool.not_true, Bool.not_false, Bool.not_not, beq_self_eq_true, Bool.and_true, Bool.true_and, nl, nls, decide_true, decide_false, exists_eq_left, Bool.false_eq_true, Option.some_inj, Int.reduceToNat, Int.reducePow, Int.reduceMul, Int.reduceSub, Int.reduceAdd, Int.reduceNeg, Nat.reducePow, Nat.reduceLeDiff, Int.reduceLE, Int.reduceLT, Int.reduceAbs, Int.natAbs_neg, Nat.reduceLT, divW_eq, mulW_eq, Bool.or_true, Bool.true_or, cut_map, ← List.map_append, ← List.map_reverse, castN, eq_self, Int.reduceEq, deqC, deq_self, rep_map, nls_dP, wsAugIx, tx_cps, tx_len, tx_app, tx_one, tx_nil, tx_cut, tx_signs, tx_rep, lit_empty, tx_inj, wJoin, gJoin, wmCall, wmOpL, wmOpR, wmIxR, wmTup2, wsSetM, wsAppM, wForM, gSum, gAny, gAll, gLtD, gInT, gSorted, gAddT, wThaw, gMaxL, wIsE, wIsV, wCallE, wTry, DEnds.off, gInB, wDct0, wCntB, wIdxB, wTryF, gEqO, gInI, gIns, gTup, wDct1, gEqR, wFld, wsSetFld, wsAddFld, isO_rfl, wMeth, wMethF, wMethN, wmMeth, wsExprM, wsRetM, wmOne, wmCons, wMake, wmMake, wsSetMk, gToIntS, endsO, endO, startO, List.getElem?_cons_succ, wTryM, wIsO, rC, lt_lp, lt_rp, lt_lb, lt_rb, lt_cm, lt_mi, lt_0, lt_dg, ts_nt, gStr, wsSetV]
    rw [cu]
    exact ⟨by omega, _, ii, by omega, v⟩
  walk_at "s"
  refine ⟨by omega, a, ha, Br.d (fun h0 => ?_) (fun h0 => ?_)⟩
  · have h48 : f.head? = some 48 := by rw [hh]; simpa using h0
    have ez : (u = [48]) ↔ ¬ (l = true ∨ 1 < f.length) := by
      rw [hu, ea]
      cases l with
      | true => simp
      | false =>
        cases r with
        | nil => simp; simpa using h0
        | cons b r => simp
    walk_at "s"
    rw [cu]
    refine ⟨by omega, ?_⟩
    by_cases hz : u = [48]
    · simp only [hz, decide_true, Bool.true_xor, Bool.not_true, Br_false, Br_true]
      exact fin fun z => ez.mp hz z.2
    · simp only [hz, decide_false, Bool.true_xor, Bool.not_false, Br_false, Br_true]
      exact q2 (bad h48 (Classical.byContradiction fun z => hz (ez.mpr z)))
  · have h48 : f.head? ≠ some 48 := fun z => h0 (by rw [hh] at z; rw [Option.some.inj z])
    exact fin fun z => h48 z.1
theorem pure_law_number (ds : List D) (x : XS) (R : Rt → Prop) (h : SP_law_number ds x R) : W_law_number (endsOf R x) (startE 5 ds) := by
  obtain ⟨s, i, rfl, hi, hs, q1, q2⟩ := h
  rw [amt_of] at q1 q2
  simp only [W_law_number, wVar, wOwn, wC, wOp, onBl, wtOn, wChain, trD, wtVal, wtNot, wAnd, wOr, wAndV, wOrV, wNotV, wIf, wNil, wCons, wTup, wLst, wUn, wNew, gAdd, gInt, gInt0, gMul, gCatF, gRepF, wOpF, gEq, gCmp, gInS, gIsN, isN, gIsB, gIdx, woNone, woSome, gSl, wSl, gSlF, wSlF, wB, wBF, gLen, gInt1, gInt2, gToInt, gListF, tyName, gIsT, wIsT, wCall, Rt.d, Cn.d, onNew, wCallF, wCallN, wCallNF, nlR, wgName, wgNil, wgCons, wgTup, wSeq, wSeqT, wSigns, wRng1, wRng2, wRng3, wRev, wEnum, wZip, wLc, wtYes, wsNil, wsBrk, wsCnt, wsExpr, wsRet, wsRetF, wsRetOwn, wsRetN, wIfS, wsSet, wsSetF, wsAsg, wsPar, wsAug, gApp, gExt, gPop0, gRev, wMut, wsSetIx, wFor, wsRaise, wSeqS, wFrz, wsCallM, wsPopAdd, endsOf, endM, endsM, startM, startE, wipeE, smallI, CPow, Br_true, Br_false, Br_not, rngD_eq, dC, dP, dI, ex_atI_map, atI0, atI1, atI2, kit1, kit2, kit3, kit4, kit5, kit6, kit7, kit8, kit9, kit10, kit11, kit12, kit13, kit14, kit15, kit16, kit17, kit18, kit19, kit20, kit21, kit22, kit23, kit24, kit25, kit26, kit27, kit28, kit29, kit30, kit31, kit32, kit33, kit34, kit35, sizeLine_eq, true_and, and_true, exists_eq_left', Option.some.injEq, List.map_cons, List.map_nil, List.length_cons, List.length_nil, List.length_map, List.length_append, List.cons_append, List.nil_append, List.set_cons_zero, List.set_cons_succ, List.getElem?_cons_zero, List.getElem?_cons_succ, List.getElem?_nil, Nat.reduceSub, Nat.reduceAdd, Nat.zero_add, Nat.sub_self, List.replicate_succ, List.replicate_zero, Bool.false_bne, Bool.true_bne, Bool.false_xor, Bool.true_xor, Bool.not_true, Bool.not_false, Bool.not_not, beq_self_eq_true, Bool.and_true, Bool.true_and, nl, nls, decide_true, decide_false, exists_eq_left, Bool.false_eq_true, Option.some_inj, Int.reduceToNat, Int.reducePow, Int.reduceMul, Int.reduceSub, Int.reduceAdd, Int.reduceNeg, Nat.reducePow, Nat.reduceLeDiff, Int.reduceLE, Int.reduceLT, Int.reduceAbs, Int.natAbs_neg, Nat.reduceLT, divW_eq, mulW_eq, Bool.or_true, Bool.true_or, cut_map, ← List.map_append, ← List.map_reverse, castN, eq_self, Int.reduceEq, deqC, deq_self, rep_map, nls_dP, wsAugIx, tx_cps, tx_len, tx_app, tx_one, tx_nil, tx_cut, tx_signs, tx_rep, lit_empty, tx_inj, wJoin, gJoin, wmCall, wmOpL, wmOpR, wmIxR, wmTup2, wsSetM, wsAppM, wForM, gSum, gAny, gAll, gLtD, gInT, gSorted, gAddT, wThaw, gMaxL, wIsE, wIsV, wCallE, wTry, DEnds.off, gInB, wDct0, wCntB, wIdxB, wTryF, gEqO, gInI, gIns, gTup, wDct1, gEqR, wFld, wsSetFld, wsAddFld, isO_rfl, wMeth, wMethF, wMethN, wmMeth, wsExprM, wsRetM, wmOne, wmCons, wMake, wmMake, wsSetMk, gToIntS, endsO, endO, startO, List.getElem?_cons_succ, wTryM, wIsO, rC, lt_lp, lt_rp, lt_lb, lt_rb, lt_cm, lt_mi, lt_0, lt_dg, ts_nt, gStr, wsSetV]
  have loop : ∀ (l : Bool) (p : Nat), l = less (s.drop i) → p = i + (if l then 1 else 0) → p ≤ s.length → W_law_number_2 { nx := fun _ => R (.val .non), rt := fun r _ => R r, ex := x } [.fz (.str (tx s)), .fz (.int (i : Nat)), .fz (.int (p : Nat)), .un, .un] := by
    intro l p hl hp hps
    simp only [W_law_number_2, wVar, wOwn, wC, wOp, onBl, wtOn, wChain, trD, wtVal, wtNot, wAnd, wOr, wAndV, wOrV, wNotV, wIf, wNil, wCons, wTup, wLst, wUn, wNew, gAdd, gInt, gInt0, gMul, gCatF, gRepF, wOpF, gEq, gCmp, gInS, gIsN, isN, gIsB, gIdx, woNone, woSome, gSl, wSl, gSlF, wSlF, wB, wBF, gLen, gInt1, gInt2, gToInt, gListF, tyName, gIsT, wIsT, wCall, Rt.d, Cn.d, onNew, wCallF, wCallN, wCallNF, nlR, wgName, wgNil, wgCons, wgTup, wSeq, wSeqT, wSigns, wRng1, wRng2, wRng3, wRev, wEnum, wZip, wLc, wtYes, wsNil, wsBrk, wsCnt, wsExpr, wsRet, wsRetF, wsRetOwn, wsRetN, wIfS, wsSet, wsSetF, wsAsg, wsPar, wsAug, gApp, gExt, gPop0, gRev, wMut, wsSetIx, wFor, wsRaise, wSeqS, wFrz, wsCallM, wsPopAdd, endsOf, endM, endsM, startM, startE, wipeE, smallI, CPow, Br_true, Br_false, Br_not, rngD_eq, dC, dP, dI, ex_atI_map, atI0, atI1, atI2, kit1, kit2, kit3, kit4, kit5, kit6, kit7, kit8, kit9, kit10, kit11, kit12, kit13, kit14, kit15, kit16, kit17, kit18, kit19, kit20, kit21, kit22, kit23, kit24, kit25, kit26, kit27, kit28, kit29, kit30, kit31, kit32, kit33, kit34, kit35, sizeLine_eq, true_and, and_true, exists_eq_left', Option.some.injEq, List.map_cons, List.map_nil, List.length_cons, List.length_nil, List.length_map, List.length_append, List.cons_append, List.nil_append, List.set_cons_zero, List.set_cons_succ, List.getElem?_cons_zero, List.getElem?_cons_succ, List.getElem?_nil, Nat.reduceSub, Nat.reduceAdd, Nat.zero_add, Nat.sub_self, List.replicate_succ, List.replicate_zero, Bool.false_bne, Bool.true_bne, Bool.false_xor, Bool.true_xor, Bool.not_true, Bool.not_false, Bool.not_not, beq_self_eq_true, Bool.and_true, Bool.true_and, nl, nls, decide_true, decide_false, exists_eq_left, Bool.false_eq_true, Option.some_inj, Int.reduceToNat, Int.reducePow, Int.reduceMul, Int.reduceSub, Int.reduceAdd, Int.reduceNeg, Nat.reducePow, Nat.reduceLeDiff, Int.reduceLE, Int.reduceLT, Int.reduceAbs, Int.natAbs_neg, Nat.reduceLT, divW_eq, mulW_eq, Bool.or_true, Bool.true_or, cut_map, ← List.map_append, ← List.map_reverse, castN, eq_self, Int.reduceEq, deqC, deq_self, rep_map, nls_dP, wsAugIx, tx_cps, tx_len, tx_app, tx_one, tx_nil, tx_cut, tx_signs, tx_rep, lit_empty, tx_inj, wJoin, gJoin, wmCall, wmOpL, wmOpR, wmIxR, wmTup2, wsSetM, wsAppM, wForM, gSum, gAny, gAll, gLtD, gInT, gSorted, gAddT, wThaw, gMaxL, wIsE, wIsV, wCallE, wTry, DEnds.off, gInB, wDct0, wCntB, wIdxB, wTryF, gEqO, gInI, gIns, gTup, wDct1, gEqR, wFld, wsSetFld, wsAddFld, isO_rfl, wMeth, wMethF, wMethN, wmMeth, wsExprM, wsRetM, wmOne, wmCons, wMake, wmMake, wsSetMk, gToIntS, endsO, endO, startO, List.getElem?_cons_succ, wTryM, wIsO, rC, lt_lp, lt_rp, lt_lb, lt_rb, lt_cm, lt_mi, lt_0, lt_dg, ts_nt, gStr, wsSetV]
    simp only [W_law_number_3, wVar, wOwn, wC, wOp, onBl, wtOn, wChain, trD, wtVal, wtNot, wAnd, wOr, wAndV, wOrV, wNotV, wIf, wNil, wCons, wTup, wLst, wUn, wNew, gAdd, gInt, gInt0, gMul, gCatF, gRepF, wOpF, gEq, gCmp, gInS, gIsN, isN, gIsB, gIdx, woNone, woSome, gSl, wSl, gSlF, wSlF, wB, wBF, gLen, gInt1, gInt2, gToInt, gListF, tyName, gIsT, wIsT, wCall, Rt.d, Cn.d, onNew, wCallF, wCallN, wCallNF, nlR, wgName, wgNil, wgCons, wgTup, wSeq, wSeqT, wSigns, wRng1, wRng2, wRng3, wRev, wEnum, wZip, wLc, wtYes, wsNil, wsBrk, wsCnt, wsExpr, wsRet, wsRetF, wsRetOwn, wsRetN, wIfS, wsSet, wsSetF, wsAsg, wsPar, wsAug, gApp, gExt, gPop0, gRev, wMut, wsSetIx, wFor, wsRaise, wSeqS, wFrz, wsCallM, wsPopAdd, endsOf, endM, endsM, startM, startE, wipeE, smallI, CPow, Br_true, Br_false, Br_not, rngD_eq, dC, dP, dI, ex_atI_map, atI0, atI1, atI2, kit1, kit2, kit3, kit4, kit5, kit6, kit7, kit8, kit9, kit10, kit11, kit12, kit13, kit14, kit15, kit16, kit17, kit18, kit19, kit20, kit21, kit22, kit23, kit24, kit25, kit26, kit27, kit28, kit29, kit30, kit31, kit32, kit33, kit34, kit35, sizeLine_eq, true_and, and_true, exists_eq_left', Option.some.injEq, List.map_cons, List.map_nil, List.length_cons, List.length_nil, List.length_map, List.length_append, List.cons_append, List.nil_append, List.set_cons_zero, List.set_cons_succ, List.getElem?_cons_zero, List.getElem?_cons_succ, List.getElem?_nil, Nat.reduceSub, Nat.reduceAdd, Nat.zero_add, Nat.sub_self, List.replicate_succ, List.replicate_zero, Bool.false_bne, Bool.true_bne, Bool.false_xor, Bool.true_xor, Bool.not_true, Bool.not_false, Bool.not_not, beq_self_eq_true, Bool.and_true, Bool.true_and, nl, nls, decide_true, decide_false, exists_eq_left, Bool.false_eq_true, Option.some_inj, Int.reduceToNat, Int.reducePow, Int.reduceMul, Int.reduceSub, Int.reduceAdd, Int.reduceNeg, Nat.reducePow, Nat.reduceLeDiff, Int.reduceLE, Int.reduceLT, Int.reduceAbs, Int.natAbs_neg, Nat.reduceLT, divW_eq, mulW_eq, Bool.or_true, Bool.true_or, cut_map, ← List.map_append, ← List.map_reverse, castN, eq_self, Int.reduceEq, deqC, deq_self, rep_map, nls_dP, wsAugIx, tx_cps, tx_len, tx_app, tx_one, tx_nil, tx_cut, tx_signs, tx_rep, lit_empty, tx_inj, wJoin, gJoin, wmCall, wmOpL, wmOpR, wmIxR, wmTup2, wsSetM, wsAppM, wForM, gSum, gAny, gAll, gLtD, gInT, gSorted, gAddT, wThaw, gMaxL, wIsE, wIsV, wCallE, wTry, DEnds.off, gInB, wDct0, wCntB, wIdxB, wTryF, gEqO, gInI, gIns, gTup, wDct1, gEqR, wFld, wsSetFld, wsAddFld, isO_rfl, wMeth, wMethF, wMethN, wmMeth, wsExprM, wsRetM, wmOne, wmCons, wMake, wmMake, wsSetMk, gToIntS, endsO, endO, startO, List.getElem?_cons_succ, wTryM, wIsO, rC, lt_lp, lt_rp, lt_lb, lt_rb, lt_cm, lt_mi, lt_0, lt_dg, ts_nt, gStr, wsSetV]
    refine while_ind (S := Nat) (fun j => [.fz (.str (tx s)), .fz (.int (i : Nat)), .fz (.int (j : Nat)), .fz (.int (p : Nat)), .un]) (fun m j => m = s.length - j ∧ p ≤ j ∧ j ≤ s.length ∧ figs (s.drop p) = (s.drop p).take (j - p) ++ figs (s.drop j)) ?_ (s.length - p) p ⟨rfl, by omega, hps, by simp⟩
    rintro m j L ⟨rfl, h1, h2, h3⟩ ih
    have out : figs (s.drop j) = [] → W_law_number_4 { nx := fun _ => R (.val .non), rt := fun r _ => R r, ex := x } [.fz (.str (tx s)), .fz (.int (i : Nat)), .fz (.int (j : Nat)), .fz (.int (p : Nat)), .un] := fun z => by
      have e : figs (s.drop p) = (s.drop p).take (j - p) := by rw [h3, z, List.append_nil]
      have el : (figs (s.drop p)).length = j - p := by
        rw [e, List.length_take, List.length_drop]
        omega
      have cf : cut s (some (p : Int)) (some (j : Int)) = figs (s.drop p) := by
        rw [cut_fromTo (by omega) (by omega), Int.toNat_natCast, Int.toNat_natCast, List.drop_take, e]
      have hd : (if l then (s.drop i).drop 1 else s.drop i) = s.drop p := by
        rw [hp]
        cases l <;> simp
      have cu : cut s (some (i : Int)) (some (j : Int)) = if l then 45 :: figs (s.drop p) else figs (s.drop p) := by
        rw [← cf, cut_fromTo (by omega) (by omega), cut_fromTo (by omega) (by omega)]
        simp only [Int.toNat_natCast, List.drop_take]
        cases l with
        | false => rw [show p = i by simpa using hp]; rfl
        | true =>
          have hh : (s.drop i).head? = some 45 := by simpa [less] using hl.symm
          have hp1 : p = i + 1 := by simpa using hp
          rcases hx : s.drop i with _ | ⟨b, r⟩
          · rw [hx] at hh; cases hh
          · rw [hx] at hh
            have hb : b = 45 := by simpa using hh
            obtain ⟨_, d2, _⟩ := drop_cons hx
            rw [hp1, d2, hb, show j - i = (j - (i + 1)) + 1 by omega, List.take_succ_cons]
            rfl
      rw [← hl, hd] at q1 q2
      refine num_4 (f := figs (s.drop p)) (l := l) figs_dg (Nat.le_trans figs_len (by rw [List.length_drop]; omega)) hs hp (by omega) cu cf rfl (fun k hk => ?_) fun hk => ?_
      · have := q1 k _ (by rw [hk]; rfl)
        rw [show i + ((if l = true then 1 else 0) + (figs (s.drop p)).length) = j by omega] at this
        exact this
      · exact q2 (by rw [hk]; rfl)
    walk_at "s"
    rw [cut_one]
    rcases hd : s.drop j with _ | ⟨a, r⟩
    · have := out (by rw [hd]; rfl)
      simp only [List.take_nil]
      walk_at "s"
      exact ⟨by omega, this⟩
    · obtain ⟨d1, d2, d3⟩ := drop_cons hd
      have e1 : (a :: r).take 1 = [a] := rfl
      have e2 : decide ([a] = ([] : List Nat)) = false := by simp
      have ha : atI s (j : Int) = some a := by rw [atI_at (j := j) rfl d1, ← d3]; exact (List.getElem?_eq_getElem d1).symm
      rw [e1, e2]
      walk_at "s"
      refine ⟨by omega, by omega, a, ha, ?_⟩
      rw [dg_mem]
      cases hz : isDg a with
      | true =>
        walk_at "s"
        have := ih (s.length - (j + 1)) (j + 1) (by omega) ⟨rfl, by omega, by omega, ?_⟩
        · simpa using this
        · rw [h3, hd, figs_cons, hz, d2]
          have e3 : j + 1 - p = (j - p) + 1 := by omega
          have e4 : (s.drop p)[j - p]? = some a := by
            rw [List.getElem?_drop, show p + (j - p) = j by omega]
            exact d3
          rw [e3, List.take_succ, e4]
          simp
      | false =>
        have := out (by rw [hd, figs_cons, hz]; rfl)
        walk_at "s"
        exact this
  have hz : decide ((s.drop i).take 1 = [45]) = less (s.drop i) := by
    unfold less
    rw [Bool.eq_iff_iff, decide_eq_true_eq, decide_eq_true_eq, one_head]
  rw [cut_one, hz]
  refine ⟨by omega, ?_⟩
  cases hl : less (s.drop i) with
  | true =>
    have hh : (s.drop i).head? = some 45 := by simpa [less] using hl
    have hj := drop_head hh
    walk_at "s"
    exact loop true (i + 1) hl.symm rfl hj
  | false =>
    walk_at "s"
    exact loop false i hl.symm rfl hi
--@ law_bracket
mutual
def kT : Tm → D
  | .pc n k => .tup [.str (Str.ofString "piece"), .str n, .int k]
  | .parts ts => .lst (kTs ts)
  | .times t k => .tup [.str (Str.ofString "times"), kT t, .int k]
  | .back a b => .tup [.str (Str.ofString "back"), kT a, kT b]
def kTs : List Tm → List D
  | [] => []
  | t :: ts => kT t :: kTs ts
end
theorem kTs_map : ∀ ts : List Tm, kTs ts = ts.map kT
  | [] => rfl
  | t :: ts => by simp [kTs, kTs_map ts]
def SP_law_bracket (lv : Nat) : Spec := fun ds _ R => ∃ (s : List Nat) (i d : Nat), ds = [.str (tx s), .int (i : Nat), .int (d : Nat)] ∧ d ≤ 30 ∧ 2 * (31 - d) ≤ lv ∧ ((s.drop i).head? = some 40 ∨ (s.drop i).head? = some 91) ∧ s.length ≤ 1000000 ∧ (∀ t m, pPart (30 - d) (s.drop i) = some (t, m) → R (.val (.tup [kT t, .int ((i + m : Nat) : Int)]))) ∧ (pPart (30 - d) (s.drop i) = none → R (.val .non))
def SP_law_row (lv : Nat) : Spec := fun ds _ R => ∃ (s : List Nat) (i d : Nat), ds = [.str (tx s), .int (i : Nat), .int (d : Nat)] ∧ d ≤ 31 ∧ 2 * (31 - d) + 1 ≤ lv ∧ i ≤ s.length ∧ s.length ≤ 1000000 ∧ (∀ ts m, pRow (pPart (30 - d)) (s.drop i).length (s.drop i) = some (ts, m) → R (.val (.tup [.lst (ts.map kT), .int ((i + m : Nat) : Int)]))) ∧ (pRow (pPart (30 - d)) (s.drop i).length (s.drop i) = none → R (.val .non))
theorem no_law_bracket (ds : List D) (x : XS) (R : Rt → Prop) (h : SP_law_bracket 0 ds x R) : False := by
  obtain ⟨s, i, d, _, h1, h, _⟩ := h
  omega
theorem no_law_row (ds : List D) (x : XS) (R : Rt → Prop) (h : SP_law_row 0 ds x R) : False := by
  obtain ⟨s, i, d, _, h1, h, _⟩ := h
  omega
theorem len_law_bracket (n : Nat) (ds : List D) (x : XS) (R : Rt → Prop) (h : SP_law_bracket n ds x R) : ds.length = ["_law_words_here", "_law_at_here", "_law_deep"].length := by
  obtain ⟨s, i, d, rfl, _⟩ := h; rfl
theorem pPart_other {n a : Nat} {r : List Nat} (h : ¬ (97 ≤ a ∧ a ≤ 122)) (h1 : a ≠ 40) (h2 : a ≠ 91) : pPart n (a :: r) = none := by
  cases n with
  | zero => exact pPart_0 h
  | succ n => exact pPart_no h h1 h2
def W_law_bracket_6 (SPr1 SPr2 : Spec) : WS :=
  (wSeqS (wIfS (wOr (wtOn (wOp (gIsN false) (wVar 5) (wC .non))) (wtOn (wOp (gEq true) (wSl (wVar 0) (woSome (wOp gIdx (wVar 5) (wC (.int 1)))) (woSome (wOp gAdd (wOp gIdx (wVar 5) (wC (.int 1))) (wC (.int 1))))) (wC (.str "]")))))
  (wsRet (wC .non))
  wsNil)
  (wsRet (wTup (wCons (wTup (wCons (wC (.str "back")) (wCons (wOp gIdx (wVar 3) (wC (.int 0))) (wCons (wOp gIdx (wVar 5) (wC (.int 0))) wNil)))) (wCons (wOp gAdd (wOp gIdx (wVar 5) (wC (.int 1))) (wC (.int 1))) wNil)))))
def W_law_bracket_5 (SPr1 SPr2 : Spec) : WS :=
  (wSeqS (wsSet 5 (wCall SPr2 (wCons (wVar 0) (wCons (wOp gAdd (wVar 4) (wC (.int 1))) (wCons (wOp gAdd (wVar 2) (wC (.int 1))) wNil)))))
  (W_law_bracket_6 SPr1 SPr2))
def W_law_bracket_4 (SPr1 SPr2 : Spec) : WS :=
  (wSeqS (wIfS (wOr (wtOn (wOp (gEq false) (wOp gIdx (wVar 0) (wVar 1)) (wC (.str "(")))) (wtOn (wOp (gEq true) (wSl (wVar 0) (woSome (wVar 4)) (woSome (wOp gAdd (wVar 4) (wC (.int 1))))) (wC (.str ",")))))
  (wsRet (wC .non))
  wsNil)
  (W_law_bracket_5 SPr1 SPr2))
def W_law_bracket_3 (SPr1 SPr2 : Spec) : WS :=
  (wSeqS (wIfS (wAnd (wtOn (wOp (gEq false) (wOp gIdx (wVar 0) (wVar 1)) (wC (.str "(")))) (wtOn (wOp (gEq false) (wSl (wVar 0) (woSome (wVar 4)) (woSome (wOp gAdd (wVar 4) (wC (.int 1))))) (wC (.str ")")))))
  (wSeqS (wsSet 6 (wCall SP_law_number (wCons (wVar 0) (wCons (wOp gAdd (wVar 4) (wC (.int 1))) wNil))))
  (wSeqS (wIfS (wtOn (wOp (gIsN false) (wVar 6) (wC .non)))
  (wsRet (wC .non))
  wsNil)
  (wsRet (wTup (wCons (wTup (wCons (wC (.str "times")) (wCons (wOp gIdx (wVar 3) (wC (.int 0))) (wCons (wOp gIdx (wVar 6) (wC (.int 0))) wNil)))) (wCons (wOp gIdx (wVar 6) (wC (.int 1))) wNil))))))
  wsNil)
  (W_law_bracket_4 SPr1 SPr2))
def W_law_bracket_2 (SPr1 SPr2 : Spec) : WS :=
  (wSeqS (wsSet 4 (wOp gIdx (wVar 3) (wC (.int 1))))
  (W_law_bracket_3 SPr1 SPr2))
def W_law_bracket_1 (SPr1 SPr2 : Spec) : WS :=
  (wSeqS (wIfS (wOr (wtOn (wOp (gIsN false) (wVar 3) (wC .non))) (wtOn (wOp (gEq false) (wVar 2) (wC (.int 30)))))
  (wsRet (wC .non))
  wsNil)
  (W_law_bracket_2 SPr1 SPr2))
def W_law_bracket (SPr1 SPr2 : Spec) : WS :=
  (wSeqS (wsSet 3 (wCall SPr2 (wCons (wVar 0) (wCons (wOp gAdd (wVar 1) (wC (.int 1))) (wCons (wOp gAdd (wVar 2) (wC (.int 1))) wNil)))))
  (W_law_bracket_1 SPr1 SPr2))
theorem pure_law_bracket (lv : Nat) (ds : List D) (x : XS) (R : Rt → Prop) (h : SP_law_bracket (lv + 1) ds x R) : W_law_bracket (SP_law_bracket lv) (SP_law_row lv) (endsOf R x) (startE 7 ds) := by
  obtain ⟨s, i, d, rfl, hd, hlv, hh, hs, q1, q2⟩ := h
  have hi : i + 1 ≤ s.length := hh.elim drop_head drop_head
  obtain ⟨a, r, hr⟩ : ∃ a r, s.drop i = a :: r := by
    rcases hx : s.drop i with _ | ⟨b, r⟩
    · rw [hx] at hh; simp at hh
    · exact ⟨b, r, rfl⟩
  obtain ⟨d1, d2, d3⟩ := drop_cons hr
  have ha : atI s (i : Int) = some a := by rw [atI_at (j := i) rfl d1, ← d3]; exact (List.getElem?_eq_getElem d1).symm
  have haa : a = 40 ∨ a = 91 := by rw [hr] at hh; simpa using hh
  have hz : ¬ (97 ≤ a ∧ a ≤ 122) := by omega
  rw [hr] at q1 q2
  have cm : Str.ofString "," = tx [44] := by decide +kernel
  have none_ : pRow (pPart (30 - (d + 1))) r.length r = none → pPart (30 - d) (a :: r) = none := fun hk => by
    rcases hn : 30 - d with _ | n
    · exact pPart_0 hz
    · rw [show 30 - (d + 1) = n by omega] at hk
      rcases haa with rfl | rfl
      · rw [pPart_lp, pIn_none (row := fun r => pRow (pPart n) r.length r) hk]
      · rw [pPart_lb, pIn_none (row := fun r => pRow (pPart n) r.length r) hk]
  simp only [W_law_bracket, wVar, wOwn, wC, wOp, onBl, wtOn, wChain, trD, wtVal, wtNot, wAnd, wOr, wAndV, wOrV, wNotV, wIf, wNil, wCons, wTup, wLst, wUn, wNew, gAdd, gInt, gInt0, gMul, gCatF, gRepF, wOpF, gEq, gCmp, gInS, gIsN, isN, gIsB, gIdx, woNone, woSome, gSl, wSl, gSlF, wSlF, wB, wBF, gLen, gInt1, gInt2, gToInt, gListF, tyName, gIsT, wIsT, wCall, Rt.d, Cn.d, onNew, wCallF, wCallN, wCallNF, nlR, wgName, wgNil, wgCons, wgTup, wSeq, wSeqT, wSigns, wRng1, wRng2, wRng3, wRev, wEnum, wZip, wLc, wtYes, wsNil, wsBrk, wsCnt, wsExpr, wsRet, wsRetF, wsRetOwn, wsRetN, wIfS, wsSet, wsSetF, wsAsg, wsPar, wsAug, gApp, gExt, gPop0, gRev, wMut, wsSetIx, wFor, wsRaise, wSeqS, wFrz, wsCallM, wsPopAdd, endsOf, endM, endsM, startM, startE, wipeE, smallI, CPow, Br_true, Br_false, Br_not, rngD_eq, dC, dP, dI, ex_atI_map, atI0, atI1, atI2, kit1, kit2, kit3, kit4, kit5, kit6, kit7, kit8, kit9, kit10, kit11, kit12, kit13, kit14, kit15, kit16, kit17, kit18, kit19, kit20, kit21, kit22, kit23, kit24, kit25, kit26, kit27, kit28, kit29, kit30, kit31, kit32, kit33, kit34, kit35, sizeLine_eq, true_and, and_true, exists_eq_left', Option.some.injEq, List.map_cons, List.map_nil, List.length_cons, List.length_nil, List.length_map, List.length_append, List.cons_append, List.nil_append, List.set_cons_zero, List.set_cons_succ, List.getElem?_cons_zero, List.getElem?_cons_succ, List.getElem?_nil, Nat.reduceSub, Nat.reduceAdd, Nat.zero_add, Nat.sub_self, List.replicate_succ, List.replicate_zero, Bool.false_bne, Bool.true_bne, Bool.false_xor, Bool.true_xor, Bool.not_true, Bool.not_false, Bool.not_not, beq_self_eq_true, Bool.and_true, Bool.true_and, nl, nls, decide_true, decide_false, exists_eq_left, Bool.false_eq_true, Option.some_inj, Int.reduceToNat, Int.reducePow, Int.reduceMul, Int.reduceSub, Int.reduceAdd, Int.reduceNeg, Nat.reducePow, Nat.reduceLeDiff, Int.reduceLE, Int.reduceLT, Int.reduceAbs, Int.natAbs_neg, Nat.reduceLT, divW_eq, mulW_eq, Bool.or_true, Bool.true_or, cut_map, ← List.map_append, ← List.map_reverse, castN, eq_self, Int.reduceEq, deqC, deq_self, rep_map, nls_dP, wsAugIx, tx_cps, tx_len, tx_app, tx_one, tx_nil, tx_cut, tx_signs, tx_rep, lit_empty, tx_inj, wJoin, gJoin, wmCall, wmOpL, wmOpR, wmIxR, wmTup2, wsSetM, wsAppM, wForM, gSum, gAny, gAll, gLtD, gInT, gSorted, gAddT, wThaw, gMaxL, wIsE, wIsV, wCallE, wTry, DEnds.off, gInB, wDct0, wCntB, wIdxB, wTryF, gEqO, gInI, gIns, gTup, wDct1, gEqR, wFld, wsSetFld, wsAddFld, isO_rfl, wMeth, wMethF, wMethN, wmMeth, wsExprM, wsRetM, wmOne, wmCons, wMake, wmMake, wsSetMk, gToIntS, endsO, endO, startO, List.getElem?_cons_succ, wTryM, wIsO, rC, lt_lp, lt_rp, lt_lb, lt_rb, lt_cm, lt_mi, lt_0, lt_dg, ts_nt, gStr, wsSetV]
  refine ⟨s, i + 1, d + 1, by simp, by omega, by omega, hi, hs, fun ts m hk => ?_, fun hk => ?_⟩
  · have rows := fun (w : List Nat) (us : List Tm) (j : Nat) (hw : w.length ≤ 1000000) => pRow_ok (p := pPart (30 - (d + 1))) (B := 1000000) (d := 61) (fun r t m hr h => by
      obtain ⟨o1, o2, o3, o4⟩ := pPart_ok _ r t m hr h
      exact ⟨o1, by omega, o3, o4⟩) w.length w us j hw
    rw [d2] at hk
    have hrl : r.length = s.length - (i + 1) := by rw [← d2, List.length_drop]
    have hm := (rows r ts m (by omega) hk).2.2.2
    have hdr : ∀ m, s.drop (i + 1 + m) = r.drop m := fun m => by rw [← List.drop_drop, d2]
    walk_at "s"
    simp only [W_law_bracket_1, wVar, wOwn, wC, wOp, onBl, wtOn, wChain, trD, wtVal, wtNot, wAnd, wOr, wAndV, wOrV, wNotV, wIf, wNil, wCons, wTup, wLst, wUn, wNew, gAdd, gInt, gInt0, gMul, gCatF, gRepF, wOpF, gEq, gCmp, gInS, gIsN, isN, gIsB, gIdx, woNone, woSome, gSl, wSl, gSlF, wSlF, wB, wBF, gLen, gInt1, gInt2, gToInt, gListF, tyName, gIsT, wIsT, wCall, Rt.d, Cn.d, onNew, wCallF, wCallN, wCallNF, nlR, wgName, wgNil, wgCons, wgTup, wSeq, wSeqT, wSigns, wRng1, wRng2, wRng3, wRev, wEnum, wZip, wLc, wtYes, wsNil, wsBrk, wsCnt, wsExpr, wsRet, wsRetF, wsRetOwn, wsRetN, wIfS, wsSet, wsSetF, wsAsg, wsPar, wsAug, gApp, gExt, gPop0, gRev, wMut, wsSetIx, wFor, wsRaise, wSeqS, wFrz, wsCallM, wsPopAdd, endsOf, endM, endsM, startM, startE, wipeE, smallI, CPow, Br_true, Br_false, Br_not, rngD_eq, dC, dP, dI, ex_atI_map, atI0, atI1, atI2, kit1, kit2, kit3, kit4, kit5, kit6, kit7, kit8, kit9, kit10, kit11, kit12, kit13, kit14, kit15, kit16, kit17, kit18, kit19, kit20, kit21, kit22, kit23, kit24, kit25, kit26, kit27, kit28, kit29, kit30, kit31, kit32, kit33, kit34, kit35, sizeLine_eq, true_and, and_true, exists_eq_left', Option.some.injEq, List.map_cons, List.map_nil, List.length_cons, List.length_nil, List.length_map, List.length_append, List.cons_append, List.nil_append, List.set_cons_zero, List.set_cons_succ, List.getElem?_cons_zero, List.getElem?_cons_succ, List.getElem?_nil, Nat.reduceSub, Nat.reduceAdd, Nat.zero_add, Nat.sub_self, List.replicate_succ, List.replicate_zero, Bool.false_bne, Bool.true_bne, Bool.false_xor, Bool.true_xor, Bool.not_true, Bool.not_false, Bool.not_not, beq_self_eq_true, Bool.and_true, Bool.true_and, nl, nls, decide_true, decide_false, exists_eq_left, Bool.false_eq_true, Option.some_inj, Int.reduceToNat, Int.reducePow, Int.reduceMul, Int.reduceSub, Int.reduceAdd, Int.reduceNeg, Nat.reducePow, Nat.reduceLeDiff, Int.reduceLE, Int.reduceLT, Int.reduceAbs, Int.natAbs_neg, Nat.reduceLT, divW_eq, mulW_eq, Bool.or_true, Bool.true_or, cut_map, ← List.map_append, ← List.map_reverse, castN, eq_self, Int.reduceEq, deqC, deq_self, rep_map, nls_dP, wsAugIx, tx_cps, tx_len, tx_app, tx_one, tx_nil, tx_cut, tx_signs, tx_rep, lit_empty, tx_inj, wJoin, gJoin, wmCall, wmOpL, wmOpR, wmIxR, wmTup2, wsSetM, wsAppM, wForM, gSum, gAny, gAll, gLtD, gInT, gSorted, gAddT, wThaw, gMaxL, wIsE, wIsV, wCallE, wTry, DEnds.off, gInB, wDct0, wCntB, wIdxB, wTryF, gEqO, gInI, gIns, gTup, wDct1, gEqR, wFld, wsSetFld, wsAddFld, isO_rfl, wMeth, wMethF, wMethN, wmMeth, wsExprM, wsRetM, wmOne, wmCons, wMake, wmMake, wsSetMk, gToIntS, endsO, endO, startO, List.getElem?_cons_succ, wTryM, wIsO, rC, lt_lp, lt_rp, lt_lb, lt_rb, lt_cm, lt_mi, lt_0, lt_dg, ts_nt, gStr, wsSetV]
    refine Br.d (fun h30 => ?_) (fun h30 => ?_)
    · have : 30 - d = 0 := by omega
      rw [this] at q2
      exact q2 (pPart_0 hz)
    obtain ⟨n, hn⟩ : ∃ n, 30 - d = n + 1 := ⟨29 - d, by omega⟩
    have hn' : 30 - (d + 1) = n := by omega
    rw [hn'] at hk rows
    rw [hn] at q1 q2
    simp only [W_law_bracket_2, wVar, wOwn, wC, wOp, onBl, wtOn, wChain, trD, wtVal, wtNot, wAnd, wOr, wAndV, wOrV, wNotV, wIf, wNil, wCons, wTup, wLst, wUn, wNew, gAdd, gInt, gInt0, gMul, gCatF, gRepF, wOpF, gEq, gCmp, gInS, gIsN, isN, gIsB, gIdx, woNone, woSome, gSl, wSl, gSlF, wSlF, wB, wBF, gLen, gInt1, gInt2, gToInt, gListF, tyName, gIsT, wIsT, wCall, Rt.d, Cn.d, onNew, wCallF, wCallN, wCallNF, nlR, wgName, wgNil, wgCons, wgTup, wSeq, wSeqT, wSigns, wRng1, wRng2, wRng3, wRev, wEnum, wZip, wLc, wtYes, wsNil, wsBrk, wsCnt, wsExpr, wsRet, wsRetF, wsRetOwn, wsRetN, wIfS, wsSet, wsSetF, wsAsg, wsPar, wsAug, gApp, gExt, gPop0, gRev, wMut, wsSetIx, wFor, wsRaise, wSeqS, wFrz, wsCallM, wsPopAdd, endsOf, endM, endsM, startM, startE, wipeE, smallI, CPow, Br_true, Br_false, Br_not, rngD_eq, dC, dP, dI, ex_atI_map, atI0, atI1, atI2, kit1, kit2, kit3, kit4, kit5, kit6, kit7, kit8, kit9, kit10, kit11, kit12, kit13, kit14, kit15, kit16, kit17, kit18, kit19, kit20, kit21, kit22, kit23, kit24, kit25, kit26, kit27, kit28, kit29, kit30, kit31, kit32, kit33, kit34, kit35, sizeLine_eq, true_and, and_true, exists_eq_left', Option.some.injEq, List.map_cons, List.map_nil, List.length_cons, List.length_nil, List.length_map, List.length_append, List.cons_append, List.nil_append, List.set_cons_zero, List.set_cons_succ, List.getElem?_cons_zero, List.getElem?_cons_succ, List.getElem?_nil, Nat.reduceSub, Nat.reduceAdd, Nat.zero_add, Nat.sub_self, List.replicate_succ, List.replicate_zero, Bool.false_bne, Bool.true_bne, Bool.false_xor, Bool.true_xor, Bool.not_true, Bool.not_false, Bool.not_not, beq_self_eq_true, Bool.and_true, Bool.true_and, nl, nls, decide_true, decide_false, exists_eq_left, Bool.false_eq_true, Option.some_inj, Int.reduceToNat, Int.reducePow, Int.reduceMul, Int.reduceSub, Int.reduceAdd, Int.reduceNeg, Nat.reducePow, Nat.reduceLeDiff, Int.reduceLE, Int.reduceLT, Int.reduceAbs, Int.natAbs_neg, Nat.reduceLT, divW_eq, mulW_eq, Bool.or_true, Bool.true_or, cut_map, ← List.map_append, ← List.map_reverse, castN, eq_self, Int.reduceEq, deqC, deq_self, rep_map, nls_dP, wsAugIx, tx_cps, tx_len, tx_app, tx_one, tx_nil, tx_cut, tx_signs, tx_rep, lit_empty, tx_inj, wJoin, gJoin, wmCall, wmOpL, wmOpR, wmIxR, wmTup2, wsSetM, wsAppM, wForM, gSum, gAny, gAll, gLtD, gInT, gSorted, gAddT, wThaw, gMaxL, wIsE, wIsV, wCallE, wTry, DEnds.off, gInB, wDct0, wCntB, wIdxB, wTryF, gEqO, gInI, gIns, gTup, wDct1, gEqR, wFld, wsSetFld, wsAddFld, isO_rfl, wMeth, wMethF, wMethN, wmMeth, wsExprM, wsRetM, wmOne, wmCons, wMake, wmMake, wsSetMk, gToIntS, endsO, endO, startO, List.getElem?_cons_succ, wTryM, wIsO, rC, lt_lp, lt_rp, lt_lb, lt_rb, lt_cm, lt_mi, lt_0, lt_dg, ts_nt, gStr, wsSetV]
    simp only [W_law_bracket_3, wVar, wOwn, wC, wOp, onBl, wtOn, wChain, trD, wtVal, wtNot, wAnd, wOr, wAndV, wOrV, wNotV, wIf, wNil, wCons, wTup, wLst, wUn, wNew, gAdd, gInt, gInt0, gMul, gCatF, gRepF, wOpF, gEq, gCmp, gInS, gIsN, isN, gIsB, gIdx, woNone, woSome, gSl, wSl, gSlF, wSlF, wB, wBF, gLen, gInt1, gInt2, gToInt, gListF, tyName, gIsT, wIsT, wCall, Rt.d, Cn.d, onNew, wCallF, wCallN, wCallNF, nlR, wgName, wgNil, wgCons, wgTup, wSeq, wSeqT, wSigns, wRng1, wRng2, wRng3, wRev, wEnum, wZip, wLc, wtYes, wsNil, wsBrk, wsCnt, wsExpr, wsRet, wsRetF, wsRetOwn, wsRetN, wIfS, wsSet, wsSetF, wsAsg, wsPar, wsAug, gApp, gExt, gPop0, gRev, wMut, wsSetIx, wFor, wsRaise, wSeqS, wFrz, wsCallM, wsPopAdd, endsOf, endM, endsM, startM, startE, wipeE, smallI, CPow, Br_true, Br_false, Br_not, rngD_eq, dC, dP, dI, ex_atI_map, atI0, atI1, atI2, kit1, kit2, kit3, kit4, kit5, kit6, kit7, kit8, kit9, kit10, kit11, kit12, kit13, kit14, kit15, kit16, kit17, kit18, kit19, kit20, kit21, kit22, kit23, kit24, kit25, kit26, kit27, kit28, kit29, kit30, kit31, kit32, kit33, kit34, kit35, sizeLine_eq, true_and, and_true, exists_eq_left', Option.some.injEq, List.map_cons, List.map_nil, List.length_cons, List.length_nil, List.length_map, List.length_append, List.cons_append, List.nil_append, List.set_cons_zero, List.set_cons_succ, List.getElem?_cons_zero, List.getElem?_cons_succ, List.getElem?_nil, Nat.reduceSub, Nat.reduceAdd, Nat.zero_add, Nat.sub_self, List.replicate_succ, List.replicate_zero, Bool.false_bne, Bool.true_bne, Bool.false_xor, Bool.true_xor, Bool.not_true, Bool.not_false, Bool.not_not, beq_self_eq_true, Bool.and_true, Bool.true_and, nl, nls, decide_true, decide_false, exists_eq_left, Bool.false_eq_true, Option.some_inj, Int.reduceToNat, Int.reducePow, Int.reduceMul, Int.reduceSub, Int.reduceAdd, Int.reduceNeg, Nat.reducePow, Nat.reduceLeDiff, Int.reduceLE, Int.reduceLT, Int.reduceAbs, Int.natAbs_neg, Nat.reduceLT, divW_eq, mulW_eq, Bool.or_true, Bool.true_or, cut_map, ← List.map_append, ← List.map_reverse, castN, eq_self, Int.reduceEq, deqC, deq_self, rep_map, nls_dP, wsAugIx, tx_cps, tx_len, tx_app, tx_one, tx_nil, tx_cut, tx_signs, tx_rep, lit_empty, tx_inj, wJoin, gJoin, wmCall, wmOpL, wmOpR, wmIxR, wmTup2, wsSetM, wsAppM, wForM, gSum, gAny, gAll, gLtD, gInT, gSorted, gAddT, wThaw, gMaxL, wIsE, wIsV, wCallE, wTry, DEnds.off, gInB, wDct0, wCntB, wIdxB, wTryF, gEqO, gInI, gIns, gTup, wDct1, gEqR, wFld, wsSetFld, wsAddFld, isO_rfl, wMeth, wMethF, wMethN, wmMeth, wsExprM, wsRetM, wmOne, wmCons, wMake, wmMake, wsSetMk, gToIntS, endsO, endO, startO, List.getElem?_cons_succ, wTryM, wIsO, rC, lt_lp, lt_rp, lt_lb, lt_rb, lt_cm, lt_mi, lt_0, lt_dg, ts_nt, gStr, wsSetV]
    have he : i + 1 + m ≤ s.length := by omega
    have eqs : ∀ (e c : Nat), decide ((s.drop e).take 1 = [c]) = decide ((s.drop e).head? = some c) := fun e c => by
      rw [Bool.eq_iff_iff, decide_eq_true_eq, decide_eq_true_eq, one_head]
    refine ⟨by omega, a, ha, ?_⟩
    rcases haa with rfl | rfl
    · rw [pPart_lp] at q1 q2
      have bad : W_law_bracket_4 (SP_law_bracket lv) (SP_law_row lv) { nx := fun _ => R (.val .non), rt := fun r _ => R r, ex := x } [.fz (.str (tx s)), .fz (.int (i : Nat)), .fz (.int (d : Nat)), .fz (.tup [.lst (ts.map kT), .int ((i + 1 + m : Nat) : Int)]), .fz (.int ((i + 1 + m : Nat) : Int)), .un, .un] ∨ (s.drop (i + 1 + m)).head? = some 41 := by
        by_cases z : (s.drop (i + 1 + m)).head? = some 41
        · exact .inr z
        · left
          simp only [W_law_bracket_4, wVar, wOwn, wC, wOp, onBl, wtOn, wChain, trD, wtVal, wtNot, wAnd, wOr, wAndV, wOrV, wNotV, wIf, wNil, wCons, wTup, wLst, wUn, wNew, gAdd, gInt, gInt0, gMul, gCatF, gRepF, wOpF, gEq, gCmp, gInS, gIsN, isN, gIsB, gIdx, woNone, woSome, gSl, wSl, gSlF, wSlF, wB, wBF, gLen, gInt1, gInt2, gToInt, gListF, tyName, gIsT, wIsT, wCall, Rt.d, Cn.d, onNew, wCallF, wCallN, wCallNF, nlR, wgName, wgNil, wgCons, wgTup, wSeq, wSeqT, wSigns, wRng1, wRng2, wRng3, wRev, wEnum, wZip, wLc, wtYes, wsNil, wsBrk, wsCnt, wsExpr, wsRet, wsRetF, wsRetOwn, wsRetN, wIfS, wsSet, wsSetF, wsAsg, wsPar, wsAug, gApp, gExt, gPop0, gRev, wMut, wsSetIx, wFor, wsRaise, wSeqS, wFrz, wsCallM, wsPopAdd, endsOf, endM, endsM, startM, startE, wipeE, smallI, CPow, Br_true, Br_false, Br_not, rngD_eq, dC, dP, dI, ex_atI_map, atI0, atI1, atI2, kit1, kit2, kit3, kit4, kit5, kit6, kit7, kit8, kit9, kit10, kit11, kit12, kit13, kit14, kit15, kit16, kit17, kit18, kit19, kit20, kit21, kit22, kit23, kit24, kit25, kit26, kit27, kit28, kit29, kit30, kit31, kit32, kit33, kit34, kit35, sizeLine_eq, true_and, and_true, exists_eq_left', Option.some.injEq, List.map_cons, List.map_nil, List.length_cons, List.length_nil, List.length_map, List.length_append, List.cons_append, List.nil_append, List.set_cons_zero, List.set_cons_succ, List.getElem?_cons_zero, List.getElem?_cons_succ, List.getElem?_nil, Nat.reduceSub, Nat.reduceAdd, Nat.zero_add, Nat.sub_self, List.replicate_succ, List.replicate_zero, Bool.false_bne, Bool.true_bne, Bool.false_xor, Bool.true_xor, Bool.not_true, Bool.not_false, Bool.not_not, beq_self_eq_true, Bool.and_true, Bool.true_and, nl, nls, decide_true, decide_false, exists_eq_left, Bool.false_eq_true, Option.some_inj, Int.reduceToNat, Int.reducePow, Int.reduceMul, Int.reduceSub, Int.reduceAdd, Int.reduceNeg, Nat.reducePow, Nat.reduceLeDiff, Int.reduceLE, Int.reduceLT, Int.reduceAbs, Int.natAbs_neg, Nat.reduceLT, divW_eq, mulW_eq, Bool.or_true, Bool.true_or, cut_map, ← List.map_append, ← List.map_reverse, castN, eq_self, Int.reduceEq, deqC, deq_self, rep_map, nls_dP, wsAugIx, tx_cps, tx_len, tx_app, tx_one, tx_nil, tx_cut, tx_signs, tx_rep, lit_empty, tx_inj, wJoin, gJoin, wmCall, wmOpL, wmOpR, wmIxR, wmTup2, wsSetM, wsAppM, wForM, gSum, gAny, gAll, gLtD, gInT, gSorted, gAddT, wThaw, gMaxL, wIsE, wIsV, wCallE, wTry, DEnds.off, gInB, wDct0, wCntB, wIdxB, wTryF, gEqO, gInI, gIns, gTup, wDct1, gEqR, wFld, wsSetFld, wsAddFld, isO_rfl, wMeth, wMethF, wMethN, wmMeth, wsExprM, wsRetM, wmOne, wmCons, wMake, wmMake, wsSetMk, gToIntS, endsO, endO, startO, List.getElem?_cons_succ, wTryM, wIsO, rC, lt_lp, lt_rp, lt_lb, lt_rb, lt_cm, lt_mi, lt_0, lt_dg, ts_nt, gStr, wsSetV]
          refine ⟨by omega, 40, ha, Br.t rfl ?_⟩
          rw [hdr] at z
          have ep := pIn_bad (row := fun r => pRow (pPart n) r.length r) hk z
          rw [ep] at q2
          exact q2 rfl
      refine Br.t rfl ?_
      walk_at "s"
      rw [cut_one, eqs]
      refine ⟨by omega, Br.d (fun z => ?_) (fun z => ?_)⟩
      · rw [hdr] at z
        have ep := pIn_some (row := fun r => pRow (pPart n) r.length r) hk z
        rw [ep] at q1 q2
        have hj := drop_head z
        have hjl : i + 1 + m + 1 ≤ s.length := by rw [hrl] at hj; omega
        walk_at "s"
        refine ⟨s, i + 1 + m + 1, rfl, hjl, hs, fun k j hk2 => ?_, fun hk2 => ?_⟩
        · rw [show i + 1 + m + 1 = i + 1 + (m + 1) by omega, hdr] at hk2
          have := q1 (.times (.parts ts) k) (1 + (m + 1) + j) (by simp only [hk2])
          rw [show i + (1 + (m + 1) + j) = i + 1 + m + 1 + j by omega] at this
          simp only [kT, kTs_map] at this
          walk_at "s"
          exact this
        · rw [show i + 1 + m + 1 = i + 1 + (m + 1) by omega, hdr] at hk2
          have := q2 (by simp only [hk2])
          walk_at "s"
          exact this
      · exact bad.resolve_right z
    · rw [pPart_lb] at q1 q2
      refine Br.f (by simp) ?_
      simp only [W_law_bracket_4, wVar, wOwn, wC, wOp, onBl, wtOn, wChain, trD, wtVal, wtNot, wAnd, wOr, wAndV, wOrV, wNotV, wIf, wNil, wCons, wTup, wLst, wUn, wNew, gAdd, gInt, gInt0, gMul, gCatF, gRepF, wOpF, gEq, gCmp, gInS, gIsN, isN, gIsB, gIdx, woNone, woSome, gSl, wSl, gSlF, wSlF, wB, wBF, gLen, gInt1, gInt2, gToInt, gListF, tyName, gIsT, wIsT, wCall, Rt.d, Cn.d, onNew, wCallF, wCallN, wCallNF, nlR, wgName, wgNil, wgCons, wgTup, wSeq, wSeqT, wSigns, wRng1, wRng2, wRng3, wRev, wEnum, wZip, wLc, wtYes, wsNil, wsBrk, wsCnt, wsExpr, wsRet, wsRetF, wsRetOwn, wsRetN, wIfS, wsSet, wsSetF, wsAsg, wsPar, wsAug, gApp, gExt, gPop0, gRev, wMut, wsSetIx, wFor, wsRaise, wSeqS, wFrz, wsCallM, wsPopAdd, endsOf, endM, endsM, startM, startE, wipeE, smallI, CPow, Br_true, Br_false, Br_not, rngD_eq, dC, dP, dI, ex_atI_map, atI0, atI1, atI2, kit1, kit2, kit3, kit4, kit5, kit6, kit7, kit8, kit9, kit10, kit11, kit12, kit13, kit14, kit15, kit16, kit17, kit18, kit19, kit20, kit21, kit22, kit23, kit24, kit25, kit26, kit27, kit28, kit29, kit30, kit31, kit32, kit33, kit34, kit35, sizeLine_eq, true_and, and_true, exists_eq_left', Option.some.injEq, List.map_cons, List.map_nil, List.length_cons, List.length_nil, List.length_map, List.length_append, List.cons_append, List.nil_append, List.set_cons_zero, List.set_cons_succ, List.getElem?_cons_zero, List.getElem?_cons_succ, List.getElem?_nil, Nat.reduceSub, Nat.reduceAdd, Nat.zero_add, Nat.sub_self, List.replicate_succ, List.replicate_zero, Bool.false_bne, Bool.true_bne, Bool.false_xor, Bool.true_xor, Bool.not_true, Bool.not_false, Bool.not_not, beq_self_eq_true, Bool.and_true, Bool.true_and, nl, nls, decide_true, decide_false, exists_eq_left, Bool.false_eq_true, Option.some_inj, Int.reduceToNat, Int.reducePow, Int.reduceMul, Int.reduceSub, Int.reduceAdd, Int.reduceNeg, Nat.reducePow, Nat.reduceLeDiff, Int.reduceLE, Int.reduceLT, Int.reduceAbs, Int.natAbs_neg, Nat.reduceLT, divW_eq, mulW_eq, Bool.or_true, Bool.true_or, cut_map, ← List.map_append, ← List.map_reverse, castN, eq_self, Int.reduceEq, deqC, deq_self, rep_map, nls_dP, wsAugIx, tx_cps, tx_len, tx_app, tx_one, tx_nil, tx_cut, tx_signs, tx_rep, lit_empty, tx_inj, wJoin, gJoin, wmCall, wmOpL, wmOpR, wmIxR, wmTup2, wsSetM, wsAppM, wForM, gSum, gAny, gAll, gLtD, gInT, gSorted, gAddT, wThaw, gMaxL, wIsE, wIsV, wCallE, wTry, DEnds.off, gInB, wDct0, wCntB, wIdxB, wTryF, gEqO, gInI, gIns, gTup, wDct1, gEqR, wFld, wsSetFld, wsAddFld, isO_rfl, wMeth, wMethF, wMethN, wmMeth, wsExprM, wsRetM, wmOne, wmCons, wMake, wmMake, wsSetMk, gToIntS, endsO, endO, startO, List.getElem?_cons_succ, wTryM, wIsO, rC, lt_lp, lt_rp, lt_lb, lt_rb, lt_cm, lt_mi, lt_0, lt_dg, ts_nt, gStr, wsSetV]
      refine ⟨by omega, 91, ha, Br.f (by simp) ?_⟩
      rw [cm]
      walk_at "s"
      rw [cut_one, eqs]
      refine ⟨by omega, ?_⟩
      by_cases z : (s.drop (i + 1 + m)).head? = some 44
      · rw [hdr] at z
        have ep := pIn_some (row := fun r => pRow (pPart n) r.length r) hk z
        have hj := drop_head z
        have hjl : i + 1 + m + 1 ≤ s.length := by rw [hrl] at hj; omega
        simp only [ep] at q1 q2
        rw [← hdr] at z
        rw [z]
        simp only [decide_true, Bool.true_xor, Bool.not_true, Br_false]
        simp only [W_law_bracket_5, wVar, wOwn, wC, wOp, onBl, wtOn, wChain, trD, wtVal, wtNot, wAnd, wOr, wAndV, wOrV, wNotV, wIf, wNil, wCons, wTup, wLst, wUn, wNew, gAdd, gInt, gInt0, gMul, gCatF, gRepF, wOpF, gEq, gCmp, gInS, gIsN, isN, gIsB, gIdx, woNone, woSome, gSl, wSl, gSlF, wSlF, wB, wBF, gLen, gInt1, gInt2, gToInt, gListF, tyName, gIsT, wIsT, wCall, Rt.d, Cn.d, onNew, wCallF, wCallN, wCallNF, nlR, wgName, wgNil, wgCons, wgTup, wSeq, wSeqT, wSigns, wRng1, wRng2, wRng3, wRev, wEnum, wZip, wLc, wtYes, wsNil, wsBrk, wsCnt, wsExpr, wsRet, wsRetF, wsRetOwn, wsRetN, wIfS, wsSet, wsSetF, wsAsg, wsPar, wsAug, gApp, gExt, gPop0, gRev, wMut, wsSetIx, wFor, wsRaise, wSeqS, wFrz, wsCallM, wsPopAdd, endsOf, endM, endsM, startM, startE, wipeE, smallI, CPow, Br_true, Br_false, Br_not, rngD_eq, dC, dP, dI, ex_atI_map, atI0, atI1, atI2, kit1, kit2, kit3, kit4, kit5, kit6, kit7, kit8, kit9, kit10, kit11, kit12, kit13, kit14, kit15, kit16, kit17, kit18, kit19, kit20, kit21, kit22, kit23, kit24, kit25, kit26, kit27, kit28, kit29, kit30, kit31, kit32, kit33, kit34, kit35, sizeLine_eq, true_and, and_true, exists_eq_left', Option.some.injEq, List.map_cons, List.map_nil, List.length_cons, List.length_nil, List.length_map, List.length_append, List.cons_append, List.nil_append, List.set_cons_zero, List.set_cons_succ, List.getElem?_cons_zero, List.getElem?_cons_succ, List.getElem?_nil, Nat.reduceSub, Nat.reduceAdd, Nat.zero_add, Nat.sub_self, List.replicate_succ, List.replicate_zero, Bool.false_bne, Bool.true_bne, Bool.false_xor, Bool.true_xor, Bool.not_true, Bool.not_false, Bool.not_not, beq_self_eq_true, Bool.and_true, Bool.true_and, nl, nls, decide_true, decide_false, exists_eq_left, Bool.false_eq_true, Option.some_inj, Int.reduceToNat, Int.reducePow, Int.reduceMul, Int.reduceSub, Int.reduceAdd, Int.reduceNeg, Nat.reducePow, Nat.reduceLeDiff, Int.reduceLE, Int.reduceLT, Int.reduceAbs, Int.natAbs_neg, Nat.reduceLT, divW_eq, mulW_eq, Bool.or_true, Bool.true_or, cut_map, ← List.map_append, ← List.map_reverse, castN, eq_self, Int.reduceEq, deqC, deq_self, rep_map, nls_dP, wsAugIx, tx_cps, tx_len, tx_app, tx_one, tx_nil, tx_cut, tx_signs, tx_rep, lit_empty, tx_inj, wJoin, gJoin, wmCall, wmOpL, wmOpR, wmIxR, wmTup2, wsSetM, wsAppM, wForM, gSum, gAny, gAll, gLtD, gInT, gSorted, gAddT, wThaw, gMaxL, wIsE, wIsV, wCallE, wTry, DEnds.off, gInB, wDct0, wCntB, wIdxB, wTryF, gEqO, gInI, gIns, gTup, wDct1, gEqR, wFld, wsSetFld, wsAddFld, isO_rfl, wMeth, wMethF, wMethN, wmMeth, wsExprM, wsRetM, wmOne, wmCons, wMake, wmMake, wsSetMk, gToIntS, endsO, endO, startO, List.getElem?_cons_succ, wTryM, wIsO, rC, lt_lp, lt_rp, lt_lb, lt_rb, lt_cm, lt_mi, lt_0, lt_dg, ts_nt, gStr, wsSetV]
        refine ⟨s, i + 1 + m + 1, d + 1, by simp, by omega, by omega, hjl, hs, fun us j hk2 => ?_, fun hk2 => ?_⟩
        · rw [hn'] at hk2
          have hr2 : s.drop (i + 1 + m + 1) = r.drop (m + 1) := by rw [show i + 1 + m + 1 = i + 1 + (m + 1) by omega, hdr]
          rw [hr2] at hk2
          have hm2 := (rows _ us j (by rw [List.length_drop]; omega) hk2).2.2.2
          rw [List.length_drop] at hm2
          have hr3 : s.drop (i + 1 + m + 1 + j) = (r.drop (m + 1)).drop j := by rw [← List.drop_drop, hr2]
          walk_at "s"
          simp only [W_law_bracket_6, wVar, wOwn, wC, wOp, onBl, wtOn, wChain, trD, wtVal, wtNot, wAnd, wOr, wAndV, wOrV, wNotV, wIf, wNil, wCons, wTup, wLst, wUn, wNew, gAdd, gInt, gInt0, gMul, gCatF, gRepF, wOpF, gEq, gCmp, gInS, gIsN, isN, gIsB, gIdx, woNone, woSome, gSl, wSl, gSlF, wSlF, wB, wBF, gLen, gInt1, gInt2, gToInt, gListF, tyName, gIsT, wIsT, wCall, Rt.d, Cn.d, onNew, wCallF, wCallN, wCallNF, nlR, wgName, wgNil, wgCons, wgTup, wSeq, wSeqT, wSigns, wRng1, wRng2, wRng3, wRev, wEnum, wZip, wLc, wtYes, wsNil, wsBrk, wsCnt, wsExpr, wsRet, wsRetF, wsRetOwn, wsRetN, wIfS, wsSet, wsSetF, wsAsg, wsPar, wsAug, gApp, gExt, gPop0, gRev, wMut, wsSetIx, wFor, wsRaise, wSeqS, wFrz, wsCallM, wsPopAdd, endsOf, endM, endsM, startM, startE, wipeE, smallI, CPow, Br_true, Br_false, Br_not, rngD_eq, dC, dP, dI, ex_atI_map, atI0, atI1, atI2, kit1, kit2, kit3, kit4, kit5, kit6, kit7, kit8, kit9, kit10, kit11, kit12, kit13, kit14, kit15, kit16, kit17, kit18, kit19, kit20, kit21, kit22, kit23, kit24, kit25, kit26, kit27, kit28, kit29, kit30, kit31, kit32, kit33, kit34, kit35, sizeLine_eq, true_and, and_true, exists_eq_left', Option.some.injEq, List.map_cons, List.map_nil, List.length_cons, List.length_nil, List.length_map, List.length_append, List.cons_append, List.nil_append, List.set_cons_zero, List.set_cons_succ, List.getElem?_cons_zero, List.getElem?_cons_succ, List.getElem?_nil, Nat.reduceSub, Nat.reduceAdd, Nat.zero_add, Nat.sub_self, List.replicate_succ, List.replicate_zero, Bool.false_bne, Bool.true_bne, Bool.false_xor, Bool.true_xor, Bool.not_true, Bool.not_false, Bool.not_not, beq_self_eq_true, Bool.and_true, Bool.true_and, nl, nls, decide_true, decide_false, exists_eq_left, Bool.false_eq_true, Option.some_inj, Int.reduceToNat, Int.reducePow, Int.reduceMul, Int.reduceSub, Int.reduceAdd, Int.reduceNeg, Nat.reducePow, Nat.reduceLeDiff, Int.reduceLE, Int.reduceLT, Int.reduceAbs, Int.natAbs_neg, Nat.reduceLT, divW_eq, mulW_eq, Bool.or_true, Bool.true_or, cut_map, ← List.map_append, ← List.map_reverse, castN, eq_self, Int.reduceEq, deqC, deq_self, rep_map, nls_dP, wsAugIx, tx_cps, tx_len, tx_app, tx_one, tx_nil, tx_cut, tx_signs, tx_rep, lit_empty, tx_inj, wJoin, gJoin, wmCall, wmOpL, wmOpR, wmIxR, wmTup2, wsSetM, wsAppM, wForM, gSum, gAny, gAll, gLtD, gInT, gSorted, gAddT, wThaw, gMaxL, wIsE, wIsV, wCallE, wTry, DEnds.off, gInB, wDct0, wCntB, wIdxB, wTryF, gEqO, gInI, gIns, gTup, wDct1, gEqR, wFld, wsSetFld, wsAddFld, isO_rfl, wMeth, wMethF, wMethN, wmMeth, wsExprM, wsRetM, wmOne, wmCons, wMake, wmMake, wsSetMk, gToIntS, endsO, endO, startO, List.getElem?_cons_succ, wTryM, wIsO, rC, lt_lp, lt_rp, lt_lb, lt_rb, lt_cm, lt_mi, lt_0, lt_dg, ts_nt, gStr, wsSetV]
          rw [cut_one, eqs, hr3]
          refine ⟨by omega, ?_⟩
          by_cases z2 : ((r.drop (m + 1)).drop j).head? = some 93
          · have ep2 := pIn_some (row := fun r => pRow (pPart n) r.length r) hk2 z2
            simp only [ep2] at q1
            have := q1 (.back (.parts ts) (.parts us)) (1 + (m + 1) + (j + 1)) rfl
            rw [show i + (1 + (m + 1) + (j + 1)) = i + 1 + m + 1 + j + 1 by omega] at this
            simp only [kT, kTs_map] at this
            refine Br.t z2 ?_
            walk_at "s"
            exact this
          · have ep2 := pIn_bad (row := fun r => pRow (pPart n) r.length r) hk2 z2
            simp only [ep2] at q2
            exact Br.f z2 (q2 trivial)
        · rw [hn'] at hk2
          have hr2 : s.drop (i + 1 + m + 1) = r.drop (m + 1) := by rw [show i + 1 + m + 1 = i + 1 + (m + 1) by omega, hdr]
          rw [hr2] at hk2
          simp only [pIn_none (row := fun r => pRow (pPart n) r.length r) hk2] at q2
          have := q2 trivial
          simp only [W_law_bracket_6, wVar, wOwn, wC, wOp, onBl, wtOn, wChain, trD, wtVal, wtNot, wAnd, wOr, wAndV, wOrV, wNotV, wIf, wNil, wCons, wTup, wLst, wUn, wNew, gAdd, gInt, gInt0, gMul, gCatF, gRepF, wOpF, gEq, gCmp, gInS, gIsN, isN, gIsB, gIdx, woNone, woSome, gSl, wSl, gSlF, wSlF, wB, wBF, gLen, gInt1, gInt2, gToInt, gListF, tyName, gIsT, wIsT, wCall, Rt.d, Cn.d, onNew, wCallF, wCallN, wCallNF, nlR, wgName, wgNil, wgCons, wgTup, wSeq, wSeqT, wSigns, wRng1, wRng2, wRng3, wRev, wEnum, wZip, wLc, wtYes, wsNil, wsBrk, wsCnt, wsExpr, wsRet, wsRetF, wsRetOwn, wsRetN, wIfS, wsSet, wsSetF, wsAsg, wsPar, wsAug, gApp, gExt, gPop0, gRev, wMut, wsSetIx, wFor, wsRaise, wSeqS, wFrz, wsCallM, wsPopAdd, endsOf, endM, endsM, startM, startE, wipeE, smallI, CPow, Br_true, Br_false, Br_not, rngD_eq, dC, dP, dI, ex_atI_map, atI0, atI1, atI2, kit1, kit2, kit3, kit4, kit5, kit6, kit7, kit8, kit9, kit10, kit11, kit12, kit13, kit14, kit15, kit16, kit17, kit18, kit19, kit20, kit21, kit22, kit23, kit24, kit25, kit26, kit27, kit28, kit29, kit30, kit31, kit32, kit33, kit34, kit35, sizeLine_eq, true_and, and_true, exists_eq_left', Option.some.injEq, List.map_cons, List.map_nil, List.length_cons, List.length_nil, List.length_map, List.length_append, List.cons_append, List.nil_append, List.set_cons_zero, List.set_cons_succ, List.getElem?_cons_zero, List.getElem?_cons_succ, List.getElem?_nil, Nat.reduceSub, Nat.reduceAdd, Nat.zero_add, Nat.sub_self, List.replicate_succ, List.replicate_zero, Bool.false_bne, Bool.true_bne, Bool.false_xor, Bool.true_xor, Bool.not_true, Bool.not_false, Bool.not_not, beq_self_eq_true, Bool.and_true, Bool.true_and, nl, nls, decide_true, decide_false, exists_eq_left, Bool.false_eq_true, Option.some_inj, Int.reduceToNat, Int.reducePow, Int.reduceMul, Int.reduceSub, Int.reduceAdd, Int.reduceNeg, Nat.reducePow, Nat.reduceLeDiff, Int.reduceLE, Int.reduceLT, Int.reduceAbs, Int.natAbs_neg, Nat.reduceLT, divW_eq, mulW_eq, Bool.or_true, Bool.true_or, cut_map, ← List.map_append, ← List.map_reverse, castN, eq_self, Int.reduceEq, deqC, deq_self, rep_map, nls_dP, wsAugIx, tx_cps, tx_len, tx_app, tx_one, tx_nil, tx_cut, tx_signs, tx_rep, lit_empty, tx_inj, wJoin, gJoin, wmCall, wmOpL, wmOpR, wmIxR, wmTup2, wsSetM, wsAppM, wForM, gSum, gAny, gAll, gLtD, gInT, gSorted, gAddT, wThaw, gMaxL, wIsE, wIsV, wCallE, wTry, DEnds.off, gInB, wDct0, wCntB, wIdxB, wTryF, gEqO, gInI, gIns, gTup, wDct1, gEqR, wFld, wsSetFld, wsAddFld, isO_rfl, wMeth, wMethF, wMethN, wmMeth, wsExprM, wsRetM, wmOne, wmCons, wMake, wmMake, wsSetMk, gToIntS, endsO, endO, startO, List.getElem?_cons_succ, wTryM, wIsO, rC, lt_lp, lt_rp, lt_lb, lt_rb, lt_cm, lt_mi, lt_0, lt_dg, ts_nt, gStr, wsSetV]
          exact this
      · have z' := z
        rw [hdr] at z'
        have ep := pIn_bad (row := fun r => pRow (pPart n) r.length r) hk z'
        rw [ep] at q2
        have := q2 rfl
        simp only [z, decide_false, Bool.true_xor, Bool.not_false, Br_true]
        walk_at "s"
        exact this
  · rw [d2] at hk
    have := q2 (none_ hk)
    simp only [W_law_bracket_1, wVar, wOwn, wC, wOp, onBl, wtOn, wChain, trD, wtVal, wtNot, wAnd, wOr, wAndV, wOrV, wNotV, wIf, wNil, wCons, wTup, wLst, wUn, wNew, gAdd, gInt, gInt0, gMul, gCatF, gRepF, wOpF, gEq, gCmp, gInS, gIsN, isN, gIsB, gIdx, woNone, woSome, gSl, wSl, gSlF, wSlF, wB, wBF, gLen, gInt1, gInt2, gToInt, gListF, tyName, gIsT, wIsT, wCall, Rt.d, Cn.d, onNew, wCallF, wCallN, wCallNF, nlR, wgName, wgNil, wgCons, wgTup, wSeq, wSeqT, wSigns, wRng1, wRng2, wRng3, wRev, wEnum, wZip, wLc, wtYes, wsNil, wsBrk, wsCnt, wsExpr, wsRet, wsRetF, wsRetOwn, wsRetN, wIfS, wsSet, wsSetF, wsAsg, wsPar, wsAug, gApp, gExt, gPop0, gRev, wMut, wsSetIx, wFor, wsRaise, wSeqS, wFrz, wsCallM, wsPopAdd, endsOf, endM, endsM, startM, startE, wipeE, smallI, CPow, Br_true, Br_false, Br_not, rngD_eq, dC, dP, dI, ex_atI_map, atI0, atI1, atI2, kit1, kit2, kit3, kit4, kit5, kit6, kit7, kit8, kit9, kit10, kit11, kit12, kit13, kit14, kit15, kit16, kit17, kit18, kit19, kit20, kit21, kit22, kit23, kit24, kit25, kit26, kit27, kit28, kit29, kit30, kit31, kit32, kit33, kit34, kit35, sizeLine_eq, true_and, and_true, exists_eq_left', Option.some.injEq, List.map_cons, List.map_nil, List.length_cons, List.length_nil, List.length_map, List.length_append, List.cons_append, List.nil_append, List.set_cons_zero, List.set_cons_succ, List.getElem?_cons_zero, List.getElem?_cons_succ, List.getElem?_nil, Nat.reduceSub, Nat.reduceAdd, Nat.zero_add, Nat.sub_self, List.replicate_succ, List.replicate_zero, Bool.false_bne, Bool.true_bne, Bool.false_xor, Bool.true_xor, Bool.not_true, Bool.not_false, Bool.not_not, beq_self_eq_true, Bool.and_true, Bool.true_and, nl, nls, decide_true, decide_false, exists_eq_left, Bool.false_eq_true, Option.some_inj, Int.reduceToNat, Int.reducePow, Int.reduceMul, Int.reduceSub, Int.reduceAdd, Int.reduceNeg, Nat.reducePow, Nat.reduceLeDiff, Int.reduceLE, Int.reduceLT, Int.reduceAbs, Int.natAbs_neg, Nat.reduceLT, divW_eq, mulW_eq, Bool.or_true, Bool.true_or, cut_map, ← List.map_append, ← List.map_reverse, castN, eq_self, Int.reduceEq, deqC, deq_self, rep_map, nls_dP, wsAugIx, tx_cps, tx_len, tx_app, tx_one, tx_nil, tx_cut, tx_signs, tx_rep, lit_empty, tx_inj, wJoin, gJoin, wmCall, wmOpL, wmOpR, wmIxR, wmTup2, wsSetM, wsAppM, wForM, gSum, gAny, gAll, gLtD, gInT, gSorted, gAddT, wThaw, gMaxL, wIsE, wIsV, wCallE, wTry, DEnds.off, gInB, wDct0, wCntB, wIdxB, wTryF, gEqO, gInI, gIns, gTup, wDct1, gEqR, wFld, wsSetFld, wsAddFld, isO_rfl, wMeth, wMethF, wMethN, wmMeth, wsExprM, wsRetM, wmOne, wmCons, wMake, wmMake, wsSetMk, gToIntS, endsO, endO, startO, List.getElem?_cons_succ, wTryM, wIsO, rC, lt_lp, lt_rp, lt_lb, lt_rb, lt_cm, lt_mi, lt_0, lt_dg, ts_nt, gStr, wsSetV]
    exact this
--@ law_row
theorem len_law_row (n : Nat) (ds : List D) (x : XS) (R : Rt → Prop) (h : SP_law_row n ds x R) : ds.length = ["_law_words_here", "_law_at_here", "_law_deep"].length := by
  obtain ⟨s, i, d, rfl, _⟩ := h; rfl
def W_law_row_1_1 (SPr1 SPr2 : Spec) : WS :=
  (wSeqS (wIfS (wtOn (wOp (gIsN false) (wVar 4) (wC .non)))
  (wsRet (wC .non))
  wsNil)
  (wSeqS (wMut 3 gApp (wCons (wOp gIdx (wVar 4) (wC (.int 0))) wNil))
  (wsSet 1 (wOp gIdx (wVar 4) (wC (.int 1))))))
def W_law_row_1_0 (SPr1 SPr2 : Spec) : WS :=
  (wSeqS (wIfS (wAnd (wtOn (wOp (gInS false) (wOp gIdx (wVar 0) (wVar 1)) (wC (.str "([")))) (wtOn (wOp (gCmp fun i j => decide (i < j)) (wVar 2) (wC (.int 31)))))
  (wsSet 4 (wCall SPr1 (wCons (wVar 0) (wCons (wVar 1) (wCons (wVar 2) wNil)))))
  (wIfS (wtOn (wOp (gInS false) (wOp gIdx (wVar 0) (wVar 1)) (wC (.str "abcdefghijklmnopqrstuvwxyz"))))
  (wSeqS (wsSet 4 (wCall SP_law_number (wCons (wVar 0) (wCons (wOp gAdd (wVar 1) (wC (.int 1))) wNil))))
  (wIfS (wtOn (wOp (gIsN true) (wVar 4) (wC .non)))
  (wsSet 4 (wTup (wCons (wTup (wCons (wC (.str "piece")) (wCons (wOp gIdx (wVar 0) (wVar 1)) (wCons (wOp gIdx (wVar 4) (wC (.int 0))) wNil)))) (wCons (wOp gIdx (wVar 4) (wC (.int 1))) wNil))))
  wsNil))
  (wsSet 4 (wC .non))))
  (W_law_row_1_1 SPr1 SPr2))
def W_law_row (SPr1 SPr2 : Spec) : WS :=
  (wSeqS (wsSetF 3 (wLst wNil))
  (wSeqS (wWhile (wAnd (wtOn (wOp (gCmp fun i j => decide (i < j)) (wVar 1) (wB gLen (wCons (wVar 0) wNil)))) (wtOn (wOp (gInS true) (wOp gIdx (wVar 0) (wVar 1)) (wC (.str "),]")))))
  (W_law_row_1_0 SPr1 SPr2))
  (wFrz 3 (wsRet (wTup (wCons (wVar 3) (wCons (wVar 1) wNil)))))))
theorem row_end {lv j d k : Nat} {s : List Nat} {acc : List Tm} {t : Tm} {q : DEnds} (hl : acc.length ≤ 1000000) (h : q.nx [.fz (.str (tx s)), .fz (.int (k : Nat)), .fz (.int (d : Nat)), .own false (.lst ((acc ++ [t]).map kT)), .fz (.tup [kT t, .int (k : Nat)])]) :
    W_law_row_1_1 (SP_law_bracket lv) (SP_law_row lv) q [.fz (.str (tx s)), .fz (.int (j : Nat)), .fz (.int (d : Nat)), .own false (.lst (acc.map kT)), .fz (.tup [kT t, .int (k : Nat)])] := by
  simp only [W_law_row_1_1, wVar, wOwn, wC, wOp, onBl, wtOn, wChain, trD, wtVal, wtNot, wAnd, wOr, wAndV, wOrV, wNotV, wIf, wNil, wCons, wTup, wLst, wUn, wNew, gAdd, gInt, gInt0, gMul, gCatF, gRepF, wOpF, gEq, gCmp, gInS, gIsN, isN, gIsB, gIdx, woNone, woSome, gSl, wSl, gSlF, wSlF, wB, wBF, gLen, gInt1, gInt2, gToInt, gListF, tyName, gIsT, wIsT, wCall, Rt.d, Cn.d, onNew, wCallF, wCallN, wCallNF, nlR, wgName, wgNil, wgCons, wgTup, wSeq, wSeqT, wSigns, wRng1, wRng2, wRng3, wRev, wEnum, wZip, wLc, wtYes, wsNil, wsBrk, wsCnt, wsExpr, wsRet, wsRetF, wsRetOwn, wsRetN, wIfS, wsSet, wsSetF, wsAsg, wsPar, wsAug, gApp, gExt, gPop0, gRev, wMut, wsSetIx, wFor, wsRaise, wSeqS, wFrz, wsCallM, wsPopAdd, endsOf, endM, endsM, startM, startE, wipeE, smallI, CPow, Br_true, Br_false, Br_not, rngD_eq, dC, dP, dI, ex_atI_map, atI0, atI1, atI2, kit1, kit2, kit3, kit4, kit5, kit6, kit7, kit8, kit9, kit10, kit11, kit12, kit13, kit14, kit15, kit16, kit17, kit18, kit19, kit20, kit21, kit22, kit23, kit24, kit25, kit26, kit27, kit28, kit29, kit30, kit31, kit32, kit33, kit34, kit35, sizeLine_eq, true_and, and_true, exists_eq_left', Option.some.injEq, List.map_cons, List.map_nil, List.length_cons, List.length_nil, List.length_map, List.length_append, List.cons_append, List.nil_append, List.set_cons_zero, List.set_cons_succ, List.getElem?_cons_zero, List.getElem?_cons_succ, List.getElem?_nil, Nat.reduceSub, Nat.reduceAdd, Nat.zero_add, Nat.sub_self, List.replicate_succ, List.replicate_zero, Bool.false_bne, Bool.true_bne, Bool.false_xor, Bool.true_xor, Bool.not_true, Bool.not_false, Bool.not_not, beq_self_eq_true, Bool.and_true, Bool.true_and, nl, nls, decide_true, decide_false, exists_eq_left, Bool.false_eq_true, Option.some_inj, Int.reduceToNat, Int.reducePow, Int.reduceMul, Int.reduceSub, Int.reduceAdd, Int.reduceNeg, Nat.reducePow, Nat.reduceLeDiff, Int.reduceLE, Int.reduceLT, Int.reduceAbs, Int.natAbs_neg, Nat.reduceLT, divW_eq, mulW_eq, Bool.or_true, Bool.true_or, cut_map, ← List.map_append, ← List.map_reverse, castN, eq_self, Int.reduceEq, deqC, deq_self, rep_map, nls_dP, wsAugIx, tx_cps, tx_len, tx_app, tx_one, tx_nil, tx_cut, tx_signs, tx_rep, lit_empty, tx_inj, wJoin, gJoin, wmCall, wmOpL, wmOpR, wmIxR, wmTup2, wsSetM, wsAppM, wForM, gSum, gAny, gAll, gLtD, gInT, gSorted, gAddT, wThaw, gMaxL, wIsE, wIsV, wCallE, wTry, DEnds.off, gInB, wDct0, wCntB, wIdxB, wTryF, gEqO, gInI, gIns, gTup, wDct1, gEqR, wFld, wsSetFld, wsAddFld, isO_rfl, wMeth, wMethF, wMethN, wmMeth, wsExprM, wsRetM, wmOne, wmCons, wMake, wmMake, wsSetMk, gToIntS, endsO, endO, startO, List.getElem?_cons_succ, wTryM, wIsO, rC, lt_lp, lt_rp, lt_lb, lt_rb, lt_cm, lt_mi, lt_0, lt_dg, ts_nt, gStr, wsSetV]
  rw [List.map_append] at h
  exact ⟨by show _ < 16777216; omega, h⟩
theorem row_bad {lv j d : Nat} {s : List Nat} {acc : List Tm} {q : DEnds} (h : ∀ ρ, q.rt (.val .non) ρ) :
    W_law_row_1_1 (SP_law_bracket lv) (SP_law_row lv) q [.fz (.str (tx s)), .fz (.int (j : Nat)), .fz (.int (d : Nat)), .own false (.lst (acc.map kT)), .fz .non] := by
  simp only [W_law_row_1_1, wVar, wOwn, wC, wOp, onBl, wtOn, wChain, trD, wtVal, wtNot, wAnd, wOr, wAndV, wOrV, wNotV, wIf, wNil, wCons, wTup, wLst, wUn, wNew, gAdd, gInt, gInt0, gMul, gCatF, gRepF, wOpF, gEq, gCmp, gInS, gIsN, isN, gIsB, gIdx, woNone, woSome, gSl, wSl, gSlF, wSlF, wB, wBF, gLen, gInt1, gInt2, gToInt, gListF, tyName, gIsT, wIsT, wCall, Rt.d, Cn.d, onNew, wCallF, wCallN, wCallNF, nlR, wgName, wgNil, wgCons, wgTup, wSeq, wSeqT, wSigns, wRng1, wRng2, wRng3, wRev, wEnum, wZip, wLc, wtYes, wsNil, wsBrk, wsCnt, wsExpr, wsRet, wsRetF, wsRetOwn, wsRetN, wIfS, wsSet, wsSetF, wsAsg, wsPar, wsAug, gApp, gExt, gPop0, gRev, wMut, wsSetIx, wFor, wsRaise, wSeqS, wFrz, wsCallM, wsPopAdd, endsOf, endM, endsM, startM, startE, wipeE, smallI, CPow, Br_true, Br_false, Br_not, rngD_eq, dC, dP, dI, ex_atI_map, atI0, atI1, atI2, kit1, kit2, kit3, kit4, kit5, kit6, kit7, kit8, kit9, kit10, kit11, kit12, kit13, kit14, kit15, kit16, kit17, kit18, kit19, kit20, kit21, kit22, kit23, kit24, kit25, kit26, kit27, kit28, kit29, kit30, kit31, kit32, kit33, kit34, kit35, sizeLine_eq, true_and, and_true, exists_eq_left', Option.some.injEq, List.map_cons, List.map_nil, List.length_cons, List.length_nil, List.length_map, List.length_append, List.cons_append, List.nil_append, List.set_cons_zero, List.set_cons_succ, List.getElem?_cons_zero, List.getElem?_cons_succ, List.getElem?_nil, Nat.reduceSub, Nat.reduceAdd, Nat.zero_add, Nat.sub_self, List.replicate_succ, List.replicate_zero, Bool.false_bne, Bool.true_bne, Bool.false_xor, Bool.true_xor, Bool.not_true, Bool.not_false, Bool.not_not, beq_self_eq_true, Bool.and_true, Bool.true_and, nl, nls, decide_true, decide_false, exists_eq_left, Bool.false_eq_true, Option.some_inj, Int.reduceToNat, Int.reducePow, Int.reduceMul, Int.reduceSub, Int.reduceAdd, Int.reduceNeg, Nat.reducePow, Nat.reduceLeDiff, Int.reduceLE, Int.reduceLT, Int.reduceAbs, Int.natAbs_neg, Nat.reduceLT, divW_eq, mulW_eq, Bool.or_true, Bool.true_or, cut_map, ← List.map_append, ← List.map_reverse, castN, eq_self, Int.reduceEq, deqC, deq_self, rep_map, nls_dP, wsAugIx, tx_cps, tx_len, tx_app, tx_one, tx_nil, tx_cut, tx_signs, tx_rep, lit_empty, tx_inj, wJoin, gJoin, wmCall, wmOpL, wmOpR, wmIxR, wmTup2, wsSetM, wsAppM, wForM, gSum, gAny, gAll, gLtD, gInT, gSorted, gAddT, wThaw, gMaxL, wIsE, wIsV, wCallE, wTry, DEnds.off, gInB, wDct0, wCntB, wIdxB, wTryF, gEqO, gInI, gIns, gTup, wDct1, gEqR, wFld, wsSetFld, wsAddFld, isO_rfl, wMeth, wMethF, wMethN, wmMeth, wsExprM, wsRetM, wmOne, wmCons, wMake, wmMake, wsSetMk, gToIntS, endsO, endO, startO, List.getElem?_cons_succ, wTryM, wIsO, rC, lt_lp, lt_rp, lt_lb, lt_rb, lt_cm, lt_mi, lt_0, lt_dg, ts_nt, gStr, wsSetV]
  exact h _
theorem pure_law_row (lv : Nat) (ds : List D) (x : XS) (R : Rt → Prop) (h : SP_law_row (lv + 1) ds x R) : W_law_row (SP_law_bracket lv) (SP_law_row lv) (endsOf R x) (startE 5 ds) := by
  obtain ⟨s, i, d, rfl, hd, hlv, hi, hs, q1, q2⟩ := h
  have s1 : Str.ofString "),]" = tx [41, 44, 93] := by decide +kernel
  have s2 : Str.ofString "([" = tx [40, 91] := by decide +kernel
  simp only [W_law_row, wVar, wOwn, wC, wOp, onBl, wtOn, wChain, trD, wtVal, wtNot, wAnd, wOr, wAndV, wOrV, wNotV, wIf, wNil, wCons, wTup, wLst, wUn, wNew, gAdd, gInt, gInt0, gMul, gCatF, gRepF, wOpF, gEq, gCmp, gInS, gIsN, isN, gIsB, gIdx, woNone, woSome, gSl, wSl, gSlF, wSlF, wB, wBF, gLen, gInt1, gInt2, gToInt, gListF, tyName, gIsT, wIsT, wCall, Rt.d, Cn.d, onNew, wCallF, wCallN, wCallNF, nlR, wgName, wgNil, wgCons, wgTup, wSeq, wSeqT, wSigns, wRng1, wRng2, wRng3, wRev, wEnum, wZip, wLc, wtYes, wsNil, wsBrk, wsCnt, wsExpr, wsRet, wsRetF, wsRetOwn, wsRetN, wIfS, wsSet, wsSetF, wsAsg, wsPar, wsAug, gApp, gExt, gPop0, gRev, wMut, wsSetIx, wFor, wsRaise, wSeqS, wFrz, wsCallM, wsPopAdd, endsOf, endM, endsM, startM, startE, wipeE, smallI, CPow, Br_true, Br_false, Br_not, rngD_eq, dC, dP, dI, ex_atI_map, atI0, atI1, atI2, kit1, kit2, kit3, kit4, kit5, kit6, kit7, kit8, kit9, kit10, kit11, kit12, kit13, kit14, kit15, kit16, kit17, kit18, kit19, kit20, kit21, kit22, kit23, kit24, kit25, kit26, kit27, kit28, kit29, kit30, kit31, kit32, kit33, kit34, kit35, sizeLine_eq, true_and, and_true, exists_eq_left', Option.some.injEq, List.map_cons, List.map_nil, List.length_cons, List.length_nil, List.length_map, List.length_append, List.cons_append, List.nil_append, List.set_cons_zero, List.set_cons_succ, List.getElem?_cons_zero, List.getElem?_cons_succ, List.getElem?_nil, Nat.reduceSub, Nat.reduceAdd, Nat.zero_add, Nat.sub_self, List.replicate_succ, List.replicate_zero, Bool.false_bne, Bool.true_bne, Bool.false_xor, Bool.true_xor, Bool.not_true, Bool.not_false, Bool.not_not, beq_self_eq_true, Bool.and_true, Bool.true_and, nl, nls, decide_true, decide_false, exists_eq_left, Bool.false_eq_true, Option.some_inj, Int.reduceToNat, Int.reducePow, Int.reduceMul, Int.reduceSub, Int.reduceAdd, Int.reduceNeg, Nat.reducePow, Nat.reduceLeDiff, Int.reduceLE, Int.reduceLT, Int.reduceAbs, Int.natAbs_neg, Nat.reduceLT, divW_eq, mulW_eq, Bool.or_true, Bool.true_or, cut_map, ← List.map_append, ← List.map_reverse, castN, eq_self, Int.reduceEq, deqC, deq_self, rep_map, nls_dP, wsAugIx, tx_cps, tx_len, tx_app, tx_one, tx_nil, tx_cut, tx_signs, tx_rep, lit_empty, tx_inj, wJoin, gJoin, wmCall, wmOpL, wmOpR, wmIxR, wmTup2, wsSetM, wsAppM, wForM, gSum, gAny, gAll, gLtD, gInT, gSorted, gAddT, wThaw, gMaxL, wIsE, wIsV, wCallE, wTry, DEnds.off, gInB, wDct0, wCntB, wIdxB, wTryF, gEqO, gInI, gIns, gTup, wDct1, gEqR, wFld, wsSetFld, wsAddFld, isO_rfl, wMeth, wMethF, wMethN, wmMeth, wsExprM, wsRetM, wmOne, wmCons, wMake, wmMake, wsSetMk, gToIntS, endsO, endO, startO, List.getElem?_cons_succ, wTryM, wIsO, rC, lt_lp, lt_rp, lt_lb, lt_rb, lt_cm, lt_mi, lt_0, lt_dg, ts_nt, gStr, wsSetV]
  refine while_ind (S := Nat × List Tm × Sl) (fun z => [.fz (.str (tx s)), .fz (.int (z.1 : Nat)), .fz (.int (d : Nat)), .own false (.lst (z.2.1.map kT)), z.2.2])
    (fun m z => i ≤ z.1 ∧ z.1 ≤ s.length ∧ (s.drop z.1).length ≤ m ∧ z.2.1.length ≤ z.1 ∧ pRow (pPart (30 - d)) (s.drop i).length (s.drop i) = match pRow (pPart (30 - d)) m (s.drop z.1) with
      | none => none
      | some (ts, k) => some (z.2.1 ++ ts, (z.1 - i) + k)) ?_ (s.drop i).length (i, [], .un) ⟨Nat.le_refl _, hi, Nat.le_refl _, Nat.zero_le _, ?_⟩
  · rintro m ⟨j, acc, s4⟩ L ⟨h1, h2, h3, h4, h5⟩ ih
    simp only at h1 h2 h3 h4 h5
    have stop : stopR (s.drop j) = true → R (.val (.tup [.lst (acc.map kT), .int (j : Nat)])) := fun hst => by
      rw [pRow_stop hst] at h5
      have := q1 _ _ h5
      rw [List.append_nil, Nat.add_zero, show i + (j - i) = j by omega] at this
      exact this
    walk_at "s"
    refine ⟨by omega, ?_⟩
    rcases hr : s.drop j with _ | ⟨a, r⟩
    · have hl0 := congrArg List.length hr
      rw [List.length_drop] at hl0
      simp only [List.length_nil] at hl0
      have := stop (by rw [hr]; rfl)
      refine Br.f (by omega) ?_
      walk_at "s"
      exact this
    · obtain ⟨d1, d2, d3⟩ := drop_cons hr
      have ha : atI s (j : Int) = some a := by rw [atI_at (j := j) rfl d1, ← d3]; exact (List.getElem?_eq_getElem d1).symm
      refine Br.t (by omega) ?_
      rw [s1]
      walk_at "s"
      refine ⟨by omega, a, ha, ?_⟩
      have hstop : stopR (a :: r) = decide (a ∈ [41, 44, 93]) := by
        unfold stopR
        rw [Bool.eq_iff_iff, decide_eq_true_eq, decide_eq_true_eq]
        simp
      cases hst : decide (a ∈ [41, 44, 93]) with
      | true =>
        have := stop (by rw [hr, hstop, hst])
        walk_at "s"
        exact this
      | false =>
        have hgo : stopR (s.drop j) = false := by rw [hr, hstop, hst]
        cases m with
        | zero =>
          rw [List.length_drop] at h3
          omega
        | succ m =>
        rw [pRow_go hgo] at h5
        walk_at "s"
        have lim : acc.length ≤ 1000000 := by omega
        have bad : pPart (30 - d) (s.drop j) = none → R (.val .non) := fun hk => q2 (by rw [h5, hk])
        have go : ∀ t k, pPart (30 - d) (s.drop j) = some (t, k) → W_law_row_1_1 (SP_law_bracket lv) (SP_law_row lv)
            { nx := L, rt := fun r _ => R r, bk := wFrz 3 (wsRet (wTup (wCons (wVar 3) (wCons (wVar 1) wNil)))) { nx := fun _ => R (.val .non), rt := fun r _ => R r, ex := x }, ct := L, ex := x }
            [.fz (.str (tx s)), .fz (.int (j : Nat)), .fz (.int (d : Nat)), .own false (.lst (acc.map kT)), .fz (.tup [kT t, .int ((j + k : Nat) : Int)])] := fun t k hk => by
          have hl : (s.drop j).length = s.length - j := List.length_drop
          obtain ⟨_, _, o1, o2⟩ := pPart_ok (30 - d) _ t k (by omega) hk
          refine row_end lim ?_
          refine ih m (j + k, acc ++ [t], _) (by omega) ⟨by simp only; omega, by simp only; omega, by simp only [List.length_drop]; omega, by simp only [List.length_append, List.length_cons, List.length_nil]; omega, ?_⟩
          rw [h5, hk]
          simp only [List.drop_drop]
          cases pRow (pPart (30 - d)) m (s.drop (j + k)) with
          | none => rfl
          | some z =>
            simp
            omega
        have bad' : pPart (30 - d) (s.drop j) = none → W_law_row_1_1 (SP_law_bracket lv) (SP_law_row lv)
            { nx := L, rt := fun r _ => R r, bk := wFrz 3 (wsRet (wTup (wCons (wVar 3) (wCons (wVar 1) wNil)))) { nx := fun _ => R (.val .non), rt := fun r _ => R r, ex := x }, ct := L, ex := x }
            [.fz (.str (tx s)), .fz (.int (j : Nat)), .fz (.int (d : Nat)), .own false (.lst (acc.map kT)), .fz .non] := fun hk => row_bad fun _ => bad hk
        rw [hr] at go bad bad'
        simp only [W_law_row_1_0, wVar, wOwn, wC, wOp, onBl, wtOn, wChain, trD, wtVal, wtNot, wAnd, wOr, wAndV, wOrV, wNotV, wIf, wNil, wCons, wTup, wLst, wUn, wNew, gAdd, gInt, gInt0, gMul, gCatF, gRepF, wOpF, gEq, gCmp, gInS, gIsN, isN, gIsB, gIdx, woNone, woSome, gSl, wSl, gSlF, wSlF, wB, wBF, gLen, gInt1, gInt2, gToInt, gListF, tyName, gIsT, wIsT, wCall, Rt.d, Cn.d, onNew, wCallF, wCallN, wCallNF, nlR, wgName, wgNil, wgCons, wgTup, wSeq, wSeqT, wSigns, wRng1, wRng2, wRng3, wRev, wEnum, wZip, wLc, wtYes, wsNil, wsBrk, wsCnt, wsExpr, wsRet, wsRetF, wsRetOwn, wsRetN, wIfS, wsSet, wsSetF, wsAsg, wsPar, wsAug, gApp, gExt, gPop0, gRev, wMut, wsSetIx, wFor, wsRaise, wSeqS, wFrz, wsCallM, wsPopAdd, endsOf, endM, endsM, startM, startE, wipeE, smallI, CPow, Br_true, Br_false, Br_not, rngD_eq, dC, dP, dI, ex_atI_map, atI0, atI1, atI2, kit1, kit2, kit3, kit4, kit5, kit6, kit7, kit8, kit9, kit10, kit11, kit12, kit13, kit14, kit15, kit16, kit17, kit18, kit19, kit20, kit21, kit22, kit23, kit24, kit25, kit26, kit27, kit28, kit29, kit30, kit31, kit32, kit33, kit34, kit35, sizeLine_eq, true_and, and_true, exists_eq_left', Option.some.injEq, List.map_cons, List.map_nil, List.length_cons, List.length_nil, List.length_map, List.length_append, List.cons_append, List.nil_append, List.set_cons_zero, List.set_cons_succ, List.getElem?_cons_zero, List.getElem?_cons_succ, List.getElem?_nil, Nat.reduceSub, Nat.reduceAdd, Nat.zero_add, Nat.sub_self, List.replicate_succ, List.replicate_zero, Bool.false_bne, Bool.true_bne, Bool.false_xor, Bool.true_xor, Bool.not_true, Bool.not_false, Bool.not_not, beq_self_eq_true, Bool.and_true, Bool.true_and, nl, nls, decide_true, decide_false, exists_eq_left, Bool.false_eq_true, Option.some_inj, Int.reduceToNat, Int.reducePow, Int.reduceMul, Int.reduceSub, Int.reduceAdd, Int.reduceNeg, Nat.reducePow, Nat.reduceLeDiff, Int.reduceLE, Int.reduceLT, Int.reduceAbs, Int.natAbs_neg, Nat.reduceLT, divW_eq, mulW_eq, Bool.or_true, Bool.true_or, cut_map, ← List.map_append, ← List.map_reverse, castN, eq_self, Int.reduceEq, deqC, deq_self, rep_map, nls_dP, wsAugIx, tx_cps, tx_len, tx_app, tx_one, tx_nil, tx_cut, tx_signs, tx_rep, lit_empty, tx_inj, wJoin, gJoin, wmCall, wmOpL, wmOpR, wmIxR, wmTup2, wsSetM, wsAppM, wForM, gSum, gAny, gAll, gLtD, gInT, gSorted, gAddT, wThaw, gMaxL, wIsE, wIsV, wCallE, wTry, DEnds.off, gInB, wDct0, wCntB, wIdxB, wTryF, gEqO, gInI, gIns, gTup, wDct1, gEqR, wFld, wsSetFld, wsAddFld, isO_rfl, wMeth, wMethF, wMethN, wmMeth, wsExprM, wsRetM, wmOne, wmCons, wMake, wmMake, wsSetMk, gToIntS, endsO, endO, startO, List.getElem?_cons_succ, wTryM, wIsO, rC, lt_lp, lt_rp, lt_lb, lt_rb, lt_cm, lt_mi, lt_0, lt_dg, ts_nt, gStr, wsSetV]
        rw [s2, az2_tx]
        walk_at "s"
        refine ⟨by omega, a, ha, ?_⟩
        have letter : ¬ (a ∈ [40, 91] ∧ d < 31) → Br (decide (a ∈ List.range' 97 26)) True True {} {} := fun _ => by
          cases decide (a ∈ List.range' 97 26) <;> trivial
        clear letter
        refine Br.d (fun hb => Br.d (fun hd31 => ?_) (fun hd31 => ?_)) (fun hb => ?_)
        · have hd31 : d ≤ 30 := by omega
          refine ⟨s, j, d, rfl, hd31, by omega, ?_, hs, fun t k hk => ?_, fun hk => ?_⟩
          · rw [hr]
            simp only [List.mem_cons, List.not_mem_nil, or_false] at hb
            rcases hb with rfl | rfl
            · exact .inl rfl
            · exact .inr rfl
          · rw [hr] at hk
            have := go t k hk
            walk_at "s"
            exact this
          · rw [hr] at hk
            have := bad' hk
            walk_at "s"
            exact this
        all_goals
          walk_at "s"
          refine ⟨by omega, a, ha, ?_⟩
          rw [az2_mem]
          refine Br.d (fun hz => ?_) (fun hz => ?_)
          · rw [pPart_l hz] at go bad'
            refine ⟨s, j + 1, by simp, by omega, hs, fun k z hk => ?_, fun hk => ?_⟩
            · rw [d2] at hk
              have := go (.pc (tx [a]) k) (1 + z) (by rw [hk])
              rw [← Nat.add_assoc] at this
              simp only [kT] at this
              walk_at "s"
              exact ⟨by omega, a, ha, this⟩
            · rw [d2] at hk
              have := bad' (by rw [hk])
              walk_at "s"
              exact this
          · refine bad' ?_
            by_cases h0 : a ∈ [40, 91]
            · have : 30 - d = 0 := by first | omega | exact absurd h0 hb
              rw [this]
              exact pPart_0 hz
            · simp only [List.mem_cons, List.not_mem_nil, or_false, not_or] at h0
              exact pPart_other hz h0.1 h0.2
  · cases pRow (pPart (30 - d)) (s.drop i).length (s.drop i) with
    | none => rfl
    | some z => simp
--@ law_read
def SP_law_read : Spec := fun ds _ R => ∃ s : List Nat, ds = [.str (tx s)] ∧ s.length ≤ 1000000 ∧ (∀ ts, parse s = some (.parts ts) → R (.val (.lst (ts.map kT)))) ∧ (parse s = none → R (.val .non))
theorem len_law_read (ds : List D) (x : XS) (R : Rt → Prop) (h : SP_law_read ds x R) : ds.length = ["_law_words_here"].length := by
  obtain ⟨s, rfl, _⟩ := h; rfl
def W_law_read : WS :=
  (wSeqS (wsSet 1 (wCall (SP_law_row 64) (wCons (wVar 0) (wCons (wC (.int 0)) (wCons (wC (.int 0)) wNil)))))
  (wSeqS (wIfS (wOr (wtOn (wOp (gIsN false) (wVar 1) (wC .non))) (wtOn (wOp (gCmp fun i j => decide (i < j)) (wOp gIdx (wVar 1) (wC (.int 1))) (wB gLen (wCons (wVar 0) wNil)))))
  (wsRet (wC .non))
  wsNil)
  (wsRet (wOp gIdx (wVar 1) (wC (.int 0))))))
theorem pure_law_read (ds : List D) (x : XS) (R : Rt → Prop) (h : SP_law_read ds x R) : W_law_read (endsOf R x) (startE 2 ds) := by
  obtain ⟨s, rfl, hs, q1, q2⟩ := h
  simp only [W_law_read, wVar, wOwn, wC, wOp, onBl, wtOn, wChain, trD, wtVal, wtNot, wAnd, wOr, wAndV, wOrV, wNotV, wIf, wNil, wCons, wTup, wLst, wUn, wNew, gAdd, gInt, gInt0, gMul, gCatF, gRepF, wOpF, gEq, gCmp, gInS, gIsN, isN, gIsB, gIdx, woNone, woSome, gSl, wSl, gSlF, wSlF, wB, wBF, gLen, gInt1, gInt2, gToInt, gListF, tyName, gIsT, wIsT, wCall, Rt.d, Cn.d, onNew, wCallF, wCallN, wCallNF, nlR, wgName, wgNil, wgCons, wgTup, wSeq, wSeqT, wSigns, wRng1, wRng2, wRng3, wRev, wEnum, wZip, wLc, wtYes, wsNil, wsBrk, wsCnt, wsExpr, wsRet, wsRetF, wsRetOwn, wsRetN, wIfS, wsSet, wsSetF, wsAsg, wsPar, wsAug, gApp, gExt, gPop0, gRev, wMut, wsSetIx, wFor, wsRaise, wSeqS, wFrz, wsCallM, wsPopAdd, endsOf, endM, endsM, startM, startE, wipeE, smallI, CPow, Br_true, Br_false, Br_not, rngD_eq, dC, dP, dI, ex_atI_map, atI0, atI1, atI2, kit1, kit2, kit3, kit4, kit5, kit6, kit7, kit8, kit9, kit10, kit11, kit12, kit13, kit14, kit15, kit16, kit17, kit18, kit19, kit20, kit21, kit22, kit23, kit24, kit25, kit26, kit27, kit28, kit29, kit30, kit31, kit32, kit33, kit34, kit35, sizeLine_eq, true_and, and_true, exists_eq_left', Option.some.injEq, List.map_cons, List.map_nil, List.length_cons, List.length_nil, List.length_map, List.length_append, List.cons_append, List.nil_append, List.set_cons_zero, List.set_cons_succ, List.getElem?_cons_zero, List.getElem?_cons_succ, List.getElem?_nil, Nat.reduceSub, Nat.reduceAdd, Nat.zero_add, Nat.sub_self, List.replicate_succ, List.replicate_zero, Bool.false_bne, Bool.true_bne, Bool.false_xor, Bool.true_xor, Bool.not_true, Bool.not_false, Bool.not_not, beq_self_eq_true, Bool.and_true, Bool.true_and, nl, nls, decide_true, decide_false, exists_eq_left, Bool.false_eq_true, Option.some_inj, Int.reduceToNat, Int.reducePow, Int.reduceMul, Int.reduceSub, Int.reduceAdd, Int.reduceNeg, Nat.reducePow, Nat.reduceLeDiff, Int.reduceLE, Int.reduceLT, Int.reduceAbs, Int.natAbs_neg, Nat.reduceLT, divW_eq, mulW_eq, Bool.or_true, Bool.true_or, cut_map, ← List.map_append, ← List.map_reverse, castN, eq_self, Int.reduceEq, deqC, deq_self, rep_map, nls_dP, wsAugIx, tx_cps, tx_len, tx_app, tx_one, tx_nil, tx_cut, tx_signs, tx_rep, lit_empty, tx_inj, wJoin, gJoin, wmCall, wmOpL, wmOpR, wmIxR, wmTup2, wsSetM, wsAppM, wForM, gSum, gAny, gAll, gLtD, gInT, gSorted, gAddT, wThaw, gMaxL, wIsE, wIsV, wCallE, wTry, DEnds.off, gInB, wDct0, wCntB, wIdxB, wTryF, gEqO, gInI, gIns, gTup, wDct1, gEqR, wFld, wsSetFld, wsAddFld, isO_rfl, wMeth, wMethF, wMethN, wmMeth, wsExprM, wsRetM, wmOne, wmCons, wMake, wmMake, wsSetMk, gToIntS, endsO, endO, startO, List.getElem?_cons_succ, wTryM, wIsO, rC, lt_lp, lt_rp, lt_lb, lt_rb, lt_cm, lt_mi, lt_0, lt_dg, ts_nt, gStr, wsSetV]
  refine ⟨s, 0, 0, rfl, by omega, by omega, by omega, hs, fun ts m hk => ?_, fun hk => ?_⟩
  · rw [List.drop_zero] at hk
    have hm := (pRow_ok (p := pPart 30) (B := 1000000) (d := 61) (fun r t m => pPart_ok 30 r t m) _ _ ts m hs hk).2.2.2
    have hp : parse s = if s.drop m = [] then some (.parts ts) else none := by
      unfold parse
      rw [hk]
    rw [hp] at q2
    have q1 := q1 ts
    rw [hp] at q1
    have hz : s.drop m = [] ↔ ¬ m < s.length := by rw [List.drop_eq_nil_iff]; omega
    walk_at "s"
    refine ⟨by omega, Br.d (fun h => ?_) (fun h => ?_)⟩
    · exact q2 (if_neg fun z => hz.mp z (by omega))
    · have := q1 (if_pos (hz.mpr (by omega)))
      walk_at "s"
      exact this
  · rw [List.drop_zero] at hk
    have := q2 (by unfold parse; rw [hk])
    walk_at "s"
    exact this
--@ Reader___init__
def SP_Reader___init__ : SpecO := fun c ds _ R => ∃ s : D, c = .obj "Reader" [] [] ∧ ds = [s] ∧ R (.obj "Reader" ["signs", "at"] [s, .int 0]) .non
theorem len_Reader___init__ (c : Cn) (ds : List D) (x : XS) (R : Cn → D → Prop) (h : SP_Reader___init__ c ds x R) : ds.length + 1 = ["self", "signs"].length := by
  obtain ⟨s, rfl, rfl, _⟩ := h; rfl
def W_Reader___init__ : WS :=
  (wSeqS (wsAddFld 0 "Reader" [] "signs" (wVar 1))
  (wsAddFld 0 "Reader" ["signs"] "at" (wC (.int 0))))
theorem pure_Reader___init__ (c : Cn) (ds : List D) (x : XS) (R : Cn → D → Prop) (h : SP_Reader___init__ c ds x R) : W_Reader___init__ (endsO R x) (startO 2 c ds) := by
  obtain ⟨s, rfl, rfl, q⟩ := h
  simp only [W_Reader___init__, wVar, wOwn, wC, wOp, onBl, wtOn, wChain, trD, wtVal, wtNot, wAnd, wOr, wAndV, wOrV, wNotV, wIf, wNil, wCons, wTup, wLst, wUn, wNew, gAdd, gInt, gInt0, gMul, gCatF, gRepF, wOpF, gEq, gCmp, gInS, gIsN, isN, gIsB, gIdx, woNone, woSome, gSl, wSl, gSlF, wSlF, wB, wBF, gLen, gInt1, gInt2, gToInt, gListF, tyName, gIsT, wIsT, wCall, Rt.d, Cn.d, onNew, wCallF, wCallN, wCallNF, nlR, wgName, wgNil, wgCons, wgTup, wSeq, wSeqT, wSigns, wRng1, wRng2, wRng3, wRev, wEnum, wZip, wLc, wtYes, wsNil, wsBrk, wsCnt, wsExpr, wsRet, wsRetF, wsRetOwn, wsRetN, wIfS, wsSet, wsSetF, wsAsg, wsPar, wsAug, gApp, gExt, gPop0, gRev, wMut, wsSetIx, wFor, wsRaise, wSeqS, wFrz, wsCallM, wsPopAdd, endsOf, endM, endsM, startM, startE, wipeE, smallI, CPow, Br_true, Br_false, Br_not, rngD_eq, dC, dP, dI, ex_atI_map, atI0, atI1, atI2, kit1, kit2, kit3, kit4, kit5, kit6, kit7, kit8, kit9, kit10, kit11, kit12, kit13, kit14, kit15, kit16, kit17, kit18, kit19, kit20, kit21, kit22, kit23, kit24, kit25, kit26, kit27, kit28, kit29, kit30, kit31, kit32, kit33, kit34, kit35, sizeLine_eq, true_and, and_true, exists_eq_left', Option.some.injEq, List.map_cons, List.map_nil, List.length_cons, List.length_nil, List.length_map, List.length_append, List.cons_append, List.nil_append, List.set_cons_zero, List.set_cons_succ, List.getElem?_cons_zero, List.getElem?_cons_succ, List.getElem?_nil, Nat.reduceSub, Nat.reduceAdd, Nat.zero_add, Nat.sub_self, List.replicate_succ, List.replicate_zero, Bool.false_bne, Bool.true_bne, Bool.false_xor, Bool.true_xor, Bool.not_true, Bool.not_false, Bool.not_not, beq_self_eq_true, Bool.and_true, Bool.true_and, nl, nls, decide_true, decide_false, exists_eq_left, Bool.false_eq_true, Option.some_inj, Int.reduceToNat, Int.reducePow, Int.reduceMul, Int.reduceSub, Int.reduceAdd, Int.reduceNeg, Nat.reducePow, Nat.reduceLeDiff, Int.reduceLE, Int.reduceLT, Int.reduceAbs, Int.natAbs_neg, Nat.reduceLT, divW_eq, mulW_eq, Bool.or_true, Bool.true_or, cut_map, ← List.map_append, ← List.map_reverse, castN, eq_self, Int.reduceEq, deqC, deq_self, rep_map, nls_dP, wsAugIx, tx_cps, tx_len, tx_app, tx_one, tx_nil, tx_cut, tx_signs, tx_rep, lit_empty, tx_inj, wJoin, gJoin, wmCall, wmOpL, wmOpR, wmIxR, wmTup2, wsSetM, wsAppM, wForM, gSum, gAny, gAll, gLtD, gInT, gSorted, gAddT, wThaw, gMaxL, wIsE, wIsV, wCallE, wTry, DEnds.off, gInB, wDct0, wCntB, wIdxB, wTryF, gEqO, gInI, gIns, gTup, wDct1, gEqR, wFld, wsSetFld, wsAddFld, isO_rfl, wMeth, wMethF, wMethN, wmMeth, wsExprM, wsRetM, wmOne, wmCons, wMake, wmMake, wsSetMk, gToIntS, endsO, endO, startO, List.getElem?_cons_succ, wTryM, wIsO, rC, lt_lp, lt_rp, lt_lb, lt_rb, lt_cm, lt_mi, lt_0, lt_dg, ts_nt, gStr, wsSetV]
  exact q
--@ Reader_sign
def SP_Reader_sign : Spec := fun ds _ R => ∃ (s : List Nat) (i : Nat), ds = [rD s i] ∧ i ≤ s.length ∧ s.length ≤ 1000000 ∧ R (.val (.str (tx ((s.drop i).take 1))))
theorem len_Reader_sign (ds : List D) (x : XS) (R : Rt → Prop) (h : SP_Reader_sign ds x R) : ds.length = ["self"].length := by
  obtain ⟨s, i, rfl, _⟩ := h; rfl
def W_Reader_sign : WS :=
  (wsRet (wSl (wFld "Reader" ["signs", "at"] 0 (wVar 0)) (woSome (wFld "Reader" ["signs", "at"] 1 (wVar 0))) (woSome (wOp gAdd (wFld "Reader" ["signs", "at"] 1 (wVar 0)) (wC (.int 1))))))
theorem pure_Reader_sign (ds : List D) (x : XS) (R : Rt → Prop) (h : SP_Reader_sign ds x R) : W_Reader_sign (endsOf R x) (startE 1 ds) := by
  obtain ⟨s, i, rfl, hi, hs, q⟩ := h
  simp only [W_Reader_sign, rD, wVar, wOwn, wC, wOp, onBl, wtOn, wChain, trD, wtVal, wtNot, wAnd, wOr, wAndV, wOrV, wNotV, wIf, wNil, wCons, wTup, wLst, wUn, wNew, gAdd, gInt, gInt0, gMul, gCatF, gRepF, wOpF, gEq, gCmp, gInS, gIsN, isN, gIsB, gIdx, woNone, woSome, gSl, wSl, gSlF, wSlF, wB, wBF, gLen, gInt1, gInt2, gToInt, gListF, tyName, gIsT, wIsT, wCall, Rt.d, Cn.d, onNew, wCallF, wCallN, wCallNF, nlR, wgName, wgNil, wgCons, wgTup, wSeq, wSeqT, wSigns, wRng1, wRng2, wRng3, wRev, wEnum, wZip, wLc, wtYes, wsNil, wsBrk, wsCnt, wsExpr, wsRet, wsRetF, wsRetOwn, wsRetN, wIfS, wsSet, wsSetF, wsAsg, wsPar, wsAug, gApp, gExt, gPop0, gRev, wMut, wsSetIx, wFor, wsRaise, wSeqS, wFrz, wsCallM, wsPopAdd, endsOf, endM, endsM, startM, startE, wipeE, smallI, CPow, Br_true, Br_false, Br_not, rngD_eq, dC, dP, dI, ex_atI_map, atI0, atI1, atI2, kit1, kit2, kit3, kit4, kit5, kit6, kit7, kit8, kit9, kit10, kit11, kit12, kit13, kit14, kit15, kit16, kit17, kit18, kit19, kit20, kit21, kit22, kit23, kit24, kit25, kit26, kit27, kit28, kit29, kit30, kit31, kit32, kit33, kit34, kit35, sizeLine_eq, true_and, and_true, exists_eq_left', Option.some.injEq, List.map_cons, List.map_nil, List.length_cons, List.length_nil, List.length_map, List.length_append, List.cons_append, List.nil_append, List.set_cons_zero, List.set_cons_succ, List.getElem?_cons_zero, List.getElem?_cons_succ, List.getElem?_nil, Nat.reduceSub, Nat.reduceAdd, Nat.zero_add, Nat.sub_self, List.replicate_succ, List.replicate_zero, Bool.false_bne, Bool.true_bne, Bool.false_xor, Bool.true_xor, Bool.not_true, Bool.not_false, Bool.not_not, beq_self_eq_true, Bool.and_true, Bool.true_and, nl, nls, decide_true, decide_false, exists_eq_left, Bool.false_eq_true, Option.some_inj, Int.reduceToNat, Int.reducePow, Int.reduceMul, Int.reduceSub, Int.reduceAdd, Int.reduceNeg, Nat.reducePow, Nat.reduceLeDiff, Int.reduceLE, Int.reduceLT, Int.reduceAbs, Int.natAbs_neg, Nat.reduceLT, divW_eq, mulW_eq, Bool.or_true, Bool.true_or, cut_map, ← List.map_append, ← List.map_reverse, castN, eq_self, Int.reduceEq, deqC, deq_self, rep_map, nls_dP, wsAugIx, tx_cps, tx_len, tx_app, tx_one, tx_nil, tx_cut, tx_signs, tx_rep, lit_empty, tx_inj, wJoin, gJoin, wmCall, wmOpL, wmOpR, wmIxR, wmTup2, wsSetM, wsAppM, wForM, gSum, gAny, gAll, gLtD, gInT, gSorted, gAddT, wThaw, gMaxL, wIsE, wIsV, wCallE, wTry, DEnds.off, gInB, wDct0, wCntB, wIdxB, wTryF, gEqO, gInI, gIns, gTup, wDct1, gEqR, wFld, wsSetFld, wsAddFld, isO_rfl, wMeth, wMethF, wMethN, wmMeth, wsExprM, wsRetM, wmOne, wmCons, wMake, wmMake, wsSetMk, gToIntS, endsO, endO, startO, List.getElem?_cons_succ, wTryM, wIsO, rC, lt_lp, lt_rp, lt_lb, lt_rb, lt_cm, lt_mi, lt_0, lt_dg, ts_nt, gStr, wsSetV]
  rw [cut_one]
  exact ⟨by omega, q⟩
--@ Reader_want
def SP_Reader_want : SpecO := fun c ds x R => ∃ (s : List Nat) (i a : Nat), c = rC s i ∧ ds = [.str (tx [a])] ∧ i ≤ s.length ∧ s.length ≤ 1000000 ∧ ((s.drop i).head? = some a → R (rC s (i + 1)) .non) ∧ (¬ (s.drop i).head? = some a → x "NoText")
theorem len_Reader_want (c : Cn) (ds : List D) (x : XS) (R : Cn → D → Prop) (h : SP_Reader_want c ds x R) : ds.length + 1 = ["self", "sign"].length := by
  obtain ⟨s, i, a, rfl, rfl, _⟩ := h; rfl
def W_Reader_want : WS :=
  (wSeqS (wIfS (wtOn (wOp (gEq true) (wMethN ["Reader"] "sign" SP_Reader_sign (wOwn 0) wNil) (wVar 1)))
  (wsRaise "NoText")
  wsNil)
  (wsSetFld 0 "Reader" ["signs", "at"] 1 (wOp gAdd (wFld "Reader" ["signs", "at"] 1 (wOwn 0)) (wC (.int 1)))))
theorem pure_Reader_want (c : Cn) (ds : List D) (x : XS) (R : Cn → D → Prop) (h : SP_Reader_want c ds x R) : W_Reader_want (endsO R x) (startO 2 c ds) := by
  obtain ⟨s, i, a, rfl, rfl, hi, hs, q1, q2⟩ := h
  simp only [W_Reader_want, rC, wVar, wOwn, wC, wOp, onBl, wtOn, wChain, trD, wtVal, wtNot, wAnd, wOr, wAndV, wOrV, wNotV, wIf, wNil, wCons, wTup, wLst, wUn, wNew, gAdd, gInt, gInt0, gMul, gCatF, gRepF, wOpF, gEq, gCmp, gInS, gIsN, isN, gIsB, gIdx, woNone, woSome, gSl, wSl, gSlF, wSlF, wB, wBF, gLen, gInt1, gInt2, gToInt, gListF, tyName, gIsT, wIsT, wCall, Rt.d, Cn.d, onNew, wCallF, wCallN, wCallNF, nlR, wgName, wgNil, wgCons, wgTup, wSeq, wSeqT, wSigns, wRng1, wRng2, wRng3, wRev, wEnum, wZip, wLc, wtYes, wsNil, wsBrk, wsCnt, wsExpr, wsRet, wsRetF, wsRetOwn, wsRetN, wIfS, wsSet, wsSetF, wsAsg, wsPar, wsAug, gApp, gExt, gPop0, gRev, wMut, wsSetIx, wFor, wsRaise, wSeqS, wFrz, wsCallM, wsPopAdd, endsOf, endM, endsM, startM, startE, wipeE, smallI, CPow, Br_true, Br_false, Br_not, rngD_eq, dC, dP, dI, ex_atI_map, atI0, atI1, atI2, kit1, kit2, kit3, kit4, kit5, kit6, kit7, kit8, kit9, kit10, kit11, kit12, kit13, kit14, kit15, kit16, kit17, kit18, kit19, kit20, kit21, kit22, kit23, kit24, kit25, kit26, kit27, kit28, kit29, kit30, kit31, kit32, kit33, kit34, kit35, sizeLine_eq, true_and, and_true, exists_eq_left', Option.some.injEq, List.map_cons, List.map_nil, List.length_cons, List.length_nil, List.length_map, List.length_append, List.cons_append, List.nil_append, List.set_cons_zero, List.set_cons_succ, List.getElem?_cons_zero, List.getElem?_cons_succ, List.getElem?_nil, Nat.reduceSub, Nat.reduceAdd, Nat.zero_add, Nat.sub_self, List.replicate_succ, List.replicate_zero, Bool.false_bne, Bool.true_bne, Bool.false_xor, Bool.true_xor, Bool.not_true, Bool.not_false, Bool.not_not, beq_self_eq_true, Bool.and_true, Bool.true_and, nl, nls, decide_true, decide_false, exists_eq_left, Bool.false_eq_true, Option.some_inj, Int.reduceToNat, Int.reducePow, Int.reduceMul, Int.reduceSub, Int.reduceAdd, Int.reduceNeg, Nat.reducePow, Nat.reduceLeDiff, Int.reduceLE, Int.reduceLT, Int.reduceAbs, Int.natAbs_neg, Nat.reduceLT, divW_eq, mulW_eq, Bool.or_true, Bool.true_or, cut_map, ← List.map_append, ← List.map_reverse, castN, eq_self, Int.reduceEq, deqC, deq_self, rep_map, nls_dP, wsAugIx, tx_cps, tx_len, tx_app, tx_one, tx_nil, tx_cut, tx_signs, tx_rep, lit_empty, tx_inj, wJoin, gJoin, wmCall, wmOpL, wmOpR, wmIxR, wmTup2, wsSetM, wsAppM, wForM, gSum, gAny, gAll, gLtD, gInT, gSorted, gAddT, wThaw, gMaxL, wIsE, wIsV, wCallE, wTry, DEnds.off, gInB, wDct0, wCntB, wIdxB, wTryF, gEqO, gInI, gIns, gTup, wDct1, gEqR, wFld, wsSetFld, wsAddFld, isO_rfl, wMeth, wMethF, wMethN, wmMeth, wsExprM, wsRetM, wmOne, wmCons, wMake, wmMake, wsSetMk, gToIntS, endsO, endO, startO, List.getElem?_cons_succ, wTryM, wIsO, rC, lt_lp, lt_rp, lt_lb, lt_rb, lt_cm, lt_mi, lt_0, lt_dg, ts_nt, gStr, wsSetV]
  refine ⟨r_sign, s, i, rfl, hi, hs, rfl, ?_⟩
  walk_at "s"
  refine Br.d (fun h => ?_) (fun h => ?_)
  · have := q1 (one_head.mp h)
    walk_at "s"
    simpa [rC] using this
  · exact q2 fun z => h (one_head.mpr z)
--@ Piece___init__
def SP_Piece___init__ : SpecO := fun c ds _ R => ∃ a0 a1 : D, c = .obj "Piece" [] [] ∧ ds = [a0, a1] ∧ R (.obj "Piece" ["nail", "turns"] [a0, a1]) .non
theorem len_Piece___init__ (c : Cn) (ds : List D) (x : XS) (R : Cn → D → Prop) (h : SP_Piece___init__ c ds x R) : ds.length + 1 = ["self", "nail", "turns"].length := by
  obtain ⟨a0, a1, rfl, rfl, _⟩ := h; rfl
def W_Piece___init__ : WS :=
  (wSeqS (wsAddFld 0 "Piece" [] "nail" (wVar 1))
  (wsAddFld 0 "Piece" ["nail"] "turns" (wVar 2)))
theorem pure_Piece___init__ (c : Cn) (ds : List D) (x : XS) (R : Cn → D → Prop) (h : SP_Piece___init__ c ds x R) : W_Piece___init__ (endsO R x) (startO 3 c ds) := by
  obtain ⟨a0, a1, rfl, rfl, q⟩ := h
  simp only [W_Piece___init__, wVar, wOwn, wC, wOp, onBl, wtOn, wChain, trD, wtVal, wtNot, wAnd, wOr, wAndV, wOrV, wNotV, wIf, wNil, wCons, wTup, wLst, wUn, wNew, gAdd, gInt, gInt0, gMul, gCatF, gRepF, wOpF, gEq, gCmp, gInS, gIsN, isN, gIsB, gIdx, woNone, woSome, gSl, wSl, gSlF, wSlF, wB, wBF, gLen, gInt1, gInt2, gToInt, gListF, tyName, gIsT, wIsT, wCall, Rt.d, Cn.d, onNew, wCallF, wCallN, wCallNF, nlR, wgName, wgNil, wgCons, wgTup, wSeq, wSeqT, wSigns, wRng1, wRng2, wRng3, wRev, wEnum, wZip, wLc, wtYes, wsNil, wsBrk, wsCnt, wsExpr, wsRet, wsRetF, wsRetOwn, wsRetN, wIfS, wsSet, wsSetF, wsAsg, wsPar, wsAug, gApp, gExt, gPop0, gRev, wMut, wsSetIx, wFor, wsRaise, wSeqS, wFrz, wsCallM, wsPopAdd, endsOf, endM, endsM, startM, startE, wipeE, smallI, CPow, Br_true, Br_false, Br_not, rngD_eq, dC, dP, dI, ex_atI_map, atI0, atI1, atI2, kit1, kit2, kit3, kit4, kit5, kit6, kit7, kit8, kit9, kit10, kit11, kit12, kit13, kit14, kit15, kit16, kit17, kit18, kit19, kit20, kit21, kit22, kit23, kit24, kit25, kit26, kit27, kit28, kit29, kit30, kit31, kit32, kit33, kit34, kit35, sizeLine_eq, true_and, and_true, exists_eq_left', Option.some.injEq, List.map_cons, List.map_nil, List.length_cons, List.length_nil, List.length_map, List.length_append, List.cons_append, List.nil_append, List.set_cons_zero, List.set_cons_succ, List.getElem?_cons_zero, List.getElem?_cons_succ, List.getElem?_nil, Nat.reduceSub, Nat.reduceAdd, Nat.zero_add, Nat.sub_self, List.replicate_succ, List.replicate_zero, Bool.false_bne, Bool.true_bne, Bool.false_xor, Bool.true_xor, Bool.not_true, Bool.not_false, Bool.not_not, beq_self_eq_true, Bool.and_true, Bool.true_and, nl, nls, decide_true, decide_false, exists_eq_left, Bool.false_eq_true, Option.some_inj, Int.reduceToNat, Int.reducePow, Int.reduceMul, Int.reduceSub, Int.reduceAdd, Int.reduceNeg, Nat.reducePow, Nat.reduceLeDiff, Int.reduceLE, Int.reduceLT, Int.reduceAbs, Int.natAbs_neg, Nat.reduceLT, divW_eq, mulW_eq, Bool.or_true, Bool.true_or, cut_map, ← List.map_append, ← List.map_reverse, castN, eq_self, Int.reduceEq, deqC, deq_self, rep_map, nls_dP, wsAugIx, tx_cps, tx_len, tx_app, tx_one, tx_nil, tx_cut, tx_signs, tx_rep, lit_empty, tx_inj, wJoin, gJoin, wmCall, wmOpL, wmOpR, wmIxR, wmTup2, wsSetM, wsAppM, wForM, gSum, gAny, gAll, gLtD, gInT, gSorted, gAddT, wThaw, gMaxL, wIsE, wIsV, wCallE, wTry, DEnds.off, gInB, wDct0, wCntB, wIdxB, wTryF, gEqO, gInI, gIns, gTup, wDct1, gEqR, wFld, wsSetFld, wsAddFld, isO_rfl, wMeth, wMethF, wMethN, wmMeth, wsExprM, wsRetM, wmOne, wmCons, wMake, wmMake, wsSetMk, gToIntS, endsO, endO, startO, List.getElem?_cons_succ, wTryM, wIsO, rC, lt_lp, lt_rp, lt_lb, lt_rb, lt_cm, lt_mi, lt_0, lt_dg, ts_nt, gStr, wsSetV]
  exact q
--@ Reader_figures
def SP_Reader_figures : SpecO := fun c ds _ R => ∃ (s : List Nat) (i : Nat), c = rC s i ∧ ds = [] ∧ i ≤ s.length ∧ s.length ≤ 1000000 ∧ R (rC s (i + (figs (s.drop i)).length)) (.str (tx (figs (s.drop i))))
theorem len_Reader_figures (c : Cn) (ds : List D) (x : XS) (R : Cn → D → Prop) (h : SP_Reader_figures c ds x R) : ds.length + 1 = ["self"].length := by
  obtain ⟨s, i, rfl, rfl, _⟩ := h; rfl
def W_Reader_figures : WS :=
  (wSeqS (wsSet 1 (wFld "Reader" ["signs", "at"] 1 (wOwn 0)))
  (wSeqS (wWhile (wAnd (wtOn (wOp (gEq true) (wMethN ["Reader"] "sign" SP_Reader_sign (wOwn 0) wNil) (wC (.str "")))) (wtOn (wOp (gInS false) (wMethN ["Reader"] "sign" SP_Reader_sign (wOwn 0) wNil) (wC C_FIGURES))))
  (wsSetFld 0 "Reader" ["signs", "at"] 1 (wOp gAdd (wFld "Reader" ["signs", "at"] 1 (wOwn 0)) (wC (.int 1)))))
  (wsRet (wSl (wFld "Reader" ["signs", "at"] 0 (wOwn 0)) (woSome (wVar 1)) (woSome (wFld "Reader" ["signs", "at"] 1 (wOwn 0)))))))
theorem pure_Reader_figures (c : Cn) (ds : List D) (x : XS) (R : Cn → D → Prop) (h : SP_Reader_figures c ds x R) : W_Reader_figures (endsO R x) (startO 2 c ds) := by
  obtain ⟨s, i, rfl, rfl, hi, hs, q⟩ := h
  simp only [W_Reader_figures, rC, wVar, wOwn, wC, wOp, onBl, wtOn, wChain, trD, wtVal, wtNot, wAnd, wOr, wAndV, wOrV, wNotV, wIf, wNil, wCons, wTup, wLst, wUn, wNew, gAdd, gInt, gInt0, gMul, gCatF, gRepF, wOpF, gEq, gCmp, gInS, gIsN, isN, gIsB, gIdx, woNone, woSome, gSl, wSl, gSlF, wSlF, wB, wBF, gLen, gInt1, gInt2, gToInt, gListF, tyName, gIsT, wIsT, wCall, Rt.d, Cn.d, onNew, wCallF, wCallN, wCallNF, nlR, wgName, wgNil, wgCons, wgTup, wSeq, wSeqT, wSigns, wRng1, wRng2, wRng3, wRev, wEnum, wZip, wLc, wtYes, wsNil, wsBrk, wsCnt, wsExpr, wsRet, wsRetF, wsRetOwn, wsRetN, wIfS, wsSet, wsSetF, wsAsg, wsPar, wsAug, gApp, gExt, gPop0, gRev, wMut, wsSetIx, wFor, wsRaise, wSeqS, wFrz, wsCallM, wsPopAdd, endsOf, endM, endsM, startM, startE, wipeE, smallI, CPow, Br_true, Br_false, Br_not, rngD_eq, dC, dP, dI, ex_atI_map, atI0, atI1, atI2, kit1, kit2, kit3, kit4, kit5, kit6, kit7, kit8, kit9, kit10, kit11, kit12, kit13, kit14, kit15, kit16, kit17, kit18, kit19, kit20, kit21, kit22, kit23, kit24, kit25, kit26, kit27, kit28, kit29, kit30, kit31, kit32, kit33, kit34, kit35, sizeLine_eq, true_and, and_true, exists_eq_left', Option.some.injEq, List.map_cons, List.map_nil, List.length_cons, List.length_nil, List.length_map, List.length_append, List.cons_append, List.nil_append, List.set_cons_zero, List.set_cons_succ, List.getElem?_cons_zero, List.getElem?_cons_succ, List.getElem?_nil, Nat.reduceSub, Nat.reduceAdd, Nat.zero_add, Nat.sub_self, List.replicate_succ, List.replicate_zero, Bool.false_bne, Bool.true_bne, Bool.false_xor, Bool.true_xor, Bool.not_true, Bool.not_false, Bool.not_not, beq_self_eq_true, Bool.and_true, Bool.true_and, nl, nls, decide_true, decide_false, exists_eq_left, Bool.false_eq_true, Option.some_inj, Int.reduceToNat, Int.reducePow, Int.reduceMul, Int.reduceSub, Int.reduceAdd, Int.reduceNeg, Nat.reducePow, Nat.reduceLeDiff, Int.reduceLE, Int.reduceLT, Int.reduceAbs, Int.natAbs_neg, Nat.reduceLT, divW_eq, mulW_eq, Bool.or_true, Bool.true_or, cut_map, ← List.map_append, ← List.map_reverse, castN, eq_self, Int.reduceEq, deqC, deq_self, rep_map, nls_dP, wsAugIx, tx_cps, tx_len, tx_app, tx_one, tx_nil, tx_cut, tx_signs, tx_rep, lit_empty, tx_inj, wJoin, gJoin, wmCall, wmOpL, wmOpR, wmIxR, wmTup2, wsSetM, wsAppM, wForM, gSum, gAny, gAll, gLtD, gInT, gSorted, gAddT, wThaw, gMaxL, wIsE, wIsV, wCallE, wTry, DEnds.off, gInB, wDct0, wCntB, wIdxB, wTryF, gEqO, gInI, gIns, gTup, wDct1, gEqR, wFld, wsSetFld, wsAddFld, isO_rfl, wMeth, wMethF, wMethN, wmMeth, wsExprM, wsRetM, wmOne, wmCons, wMake, wmMake, wsSetMk, gToIntS, endsO, endO, startO, List.getElem?_cons_succ, wTryM, wIsO, rC, lt_lp, lt_rp, lt_lb, lt_rb, lt_cm, lt_mi, lt_0, lt_dg, ts_nt, gStr, wsSetV]
  refine while_ind (S := Nat) (fun j => [.own true (rC s j), .fz (.int (i : Nat))]) (fun m j => m = s.length - j ∧ i ≤ j ∧ j ≤ s.length ∧ figs (s.drop i) = (s.drop i).take (j - i) ++ figs (s.drop j)) ?_ (s.length - i) i ⟨rfl, by omega, hi, by simp⟩
  rintro m j L ⟨rfl, h1, h2, h3⟩ ih
  simp only [rC]
  walk_at "s"
  have fin : figs (s.drop j) = [] → figs (s.drop i) = (s.drop i).take (j - i) := fun z => by rw [h3, z, List.append_nil]
  have out : figs (s.drop j) = [] → R (Cn.obj "Reader" ["signs", "at"] [.str (tx s), .int (j : Int)]) (.str (tx (cut s (some (i : Int)) (some (j : Int))))) := fun z => by
    have e := fin z
    have el : (figs (s.drop i)).length = j - i := by
      rw [e, List.length_take, List.length_drop]
      omega
    have ec : cut s (some (i : Int)) (some (j : Int)) = figs (s.drop i) := by
      rw [cut_fromTo (by omega) (by omega), Int.toNat_natCast, Int.toNat_natCast, List.drop_take, e]
    have ei : i + (j - i) = j := by omega
    rw [el, ei] at q
    rw [ec]
    exact q
  refine ⟨r_sign', s, j, rfl, h2, hs, rfl, ?_⟩
  rcases hd : s.drop j with _ | ⟨a, r⟩
  · have z : figs (s.drop j) = [] := by rw [hd]; rfl
    have := out z
    walk_at "s"
    simp only [List.take_nil]
    walk_at "s"
    exact ⟨by omega, this⟩
  · obtain ⟨d1, d2, d3⟩ := drop_cons hd
    have e1 : (a :: r).take 1 = [a] := rfl
    rw [e1]
    walk_at "s"
    have e2 : decide ([a] = ([] : List Nat)) = false := by simp
    rw [e2]
    walk_at "s"
    refine ⟨r_sign', s, j, rfl, h2, hs, rfl, ?_⟩
    rw [hd, e1]
    unfold C_FIGURES
    walk_at "s"
    rw [dg_mem]
    cases hz : isDg a with
    | true =>
      walk_at "s"
      have := ih (s.length - (j + 1)) (j + 1) (by omega) ⟨rfl, by omega, by omega, ?_⟩
      · simpa [rC] using this
      · rw [h3, hd, figs_cons, hz, d2]
        have e3 : j + 1 - i = (j - i) + 1 := by omega
        have e4 : (s.drop i)[j - i]? = some a := by
          rw [List.getElem?_drop, show i + (j - i) = j by omega]
          exact d3
        rw [e3, List.take_succ, e4]
        simp
    | false =>
      have z : figs (s.drop j) = [] := by rw [hd, figs_cons, hz]; rfl
      have := out z
      walk_at "s"
      exact ⟨by omega, this⟩
--@ Reader_amount
def SP_Reader_amount : SpecO := fun c ds x R => ∃ (s : List Nat) (i : Nat), c = rC s i ∧ ds = [] ∧ i ≤ s.length ∧ s.length ≤ 1000000 ∧ (∀ k m, pAmt (s.drop i) = some (k, m) → R (rC s (i + m)) (.int k)) ∧ (pAmt (s.drop i) = none → x "NoText")
theorem len_Reader_amount (c : Cn) (ds : List D) (x : XS) (R : Cn → D → Prop) (h : SP_Reader_amount c ds x R) : ds.length + 1 = ["self"].length := by
  obtain ⟨s, i, rfl, rfl, _⟩ := h; rfl
def W_Reader_amount_3 : WS :=
  (wSeqS (wIfS (wAnd (wtOn (wOp (gEq false) (wVar 2) (wC (.str "")))) (wtNot (wtVal (wVar 1))))
  (wsRet (wC (.int 1)))
  wsNil)
  (wSeqS (wIfS (wOr (wtOn (wOp (gEq false) (wVar 2) (wC (.str "")))) (wtOn (wOp (gCmp fun i j => decide (j < i)) (wB gLen (wCons (wVar 2) wNil)) (wC C_MOST_FIGURES))))
  (wsRaise "NoText")
  wsNil)
  (wSeqS (wIfS (wAnd (wtOn (wOp (gEq false) (wOp gIdx (wVar 2) (wC (.int 0))) (wC (.str "0")))) (wOr (wtVal (wVar 1)) (wtOn (wOp (gCmp fun i j => decide (j < i)) (wB gLen (wCons (wVar 2) wNil)) (wC (.int 1))))))
  (wsRaise "NoText")
  wsNil)
  (wSeqS (wIfS (wtVal (wVar 1))
  (wsRet (wUn (fun i => -i) (wB gToIntS (wCons (wVar 2) wNil))))
  wsNil)
  (wsRet (wB gToIntS (wCons (wVar 2) wNil)))))))
def W_Reader_amount : WS :=
  (wSeqS (wsSet 1 (wOp (gEq false) (wMethN ["Reader"] "sign" SP_Reader_sign (wOwn 0) wNil) (wC (.str "-"))))
  (wSeqS (wIfS (wtVal (wVar 1))
  (wsExprM (wmMeth 0 "Reader" ["signs", "at"] SP_Reader_want (wCons (wC (.str "-")) wNil)))
  wsNil)
  (wSeqS (wsSetM 2 (wmMeth 0 "Reader" ["signs", "at"] SP_Reader_figures wNil))
  W_Reader_amount_3)))
theorem rest_Reader_amount (s : List Nat) (p : Nat) (l : Bool) (f : List Nat) (x : XS) (R : Cn → D → Prop) (hf : NumText.AllDigits f) (hl : f.length ≤ 1000000) (q1 : ∀ k, amtV l f = some k → R (rC s p) (.int k)) (q2 : amtV l f = none → x "NoText") :
    W_Reader_amount_3 (endsO R x) [.own true (rC s p), .fz (.bl l), .fz (.str (tx f))] := by
  simp only [W_Reader_amount_3, rC, wVar, wOwn, wC, wOp, onBl, wtOn, wChain, trD, wtVal, wtNot, wAnd, wOr, wAndV, wOrV, wNotV, wIf, wNil, wCons, wTup, wLst, wUn, wNew, gAdd, gInt, gInt0, gMul, gCatF, gRepF, wOpF, gEq, gCmp, gInS, gIsN, isN, gIsB, gIdx, woNone, woSome, gSl, wSl, gSlF, wSlF, wB, wBF, gLen, gInt1, gInt2, gToInt, gListF, tyName, gIsT, wIsT, wCall, Rt.d, Cn.d, onNew, wCallF, wCallN, wCallNF, nlR, wgName, wgNil, wgCons, wgTup, wSeq, wSeqT, wSigns, wRng1, wRng2, wRng3, wRev, wEnum, wZip, wLc, wtYes, wsNil, wsBrk, wsCnt, wsExpr, wsRet, wsRetF, wsRetOwn, wsRetN, wIfS, wsSet, wsSetF, wsAsg, wsPar, wsAug, gApp, gExt, gPop0, gRev, wMut, wsSetIx, wFor, wsRaise, wSeqS, wFrz, wsCallM, wsPopAdd, endsOf, endM, endsM, startM, startE, wipeE, smallI, CPow, Br_true, Br_false, Br_not, rngD_eq, dC, dP, dI, ex_atI_map, atI0, atI1, atI2, kit1, kit2, kit3, kit4, kit5, kit6, kit7, kit8, kit9, kit10, kit11, kit12, kit13, kit14, kit15, kit16, kit17, kit18, kit19, kit20, kit21, kit22, kit23, kit24, kit25, kit26, kit27, kit28, kit29, kit30, kit31, kit32, kit33, kit34, kit35, sizeLine_eq, true_and, and_true, exists_eq_left', Option.some.injEq, List.map_cons, List.map_nil, List.length_cons, List.length_nil, List.length_map, List.length_append, List.cons_append, List.nil_append, List.set_cons_zero, List.set_cons_succ, List.getElem?_cons_zero, List.getElem?_cons_succ, List.getElem?_nil, Nat.reduceSub, Nat.reduceAdd, Nat.zero_add, Nat.sub_self, List.replicate_succ, List.replicate_zero, Bool.false_bne, Bool.true_bne, Bool.false_xor, Bool.true_xor, Bool.not_true, Bool.not_false, Bool.not_not, beq_self_eq_true, Bool.and_true, Bool.true_and, nl, nls, decide_true, decide_false, exists_eq_left, Bool.false_eq_true, Option.some_inj, Int.reduceToNat, Int.reducePow, Int.reduceMul, Int.reduceSub, Int.reduceAdd, Int.reduceNeg, Nat.reducePow, Nat.reduceLeDiff, Int.reduceLE, Int.reduceLT, Int.reduceAbs, Int.natAbs_neg, Nat.reduceLT, divW_eq, mulW_eq, Bool.or_true, Bool.true_or, cut_map, ← List.map_append, ← List.map_reverse, castN, eq_self, Int.reduceEq, deqC, deq_self, rep_map, nls_dP, wsAugIx, tx_cps, tx_len, tx_app, tx_one, tx_nil, tx_cut, tx_signs, tx_rep, lit_empty, tx_inj, wJoin, gJoin, wmCall, wmOpL, wmOpR, wmIxR, wmTup2, wsSetM, wsAppM, wForM, gSum, gAny, gAll, gLtD, gInT, gSorted, gAddT, wThaw, gMaxL, wIsE, wIsV, wCallE, wTry, DEnds.off, gInB, wDct0, wCntB, wIdxB, wTryF, gEqO, gInI, gIns, gTup, wDct1, gEqR, wFld, wsSetFld, wsAddFld, isO_rfl, wMeth, wMethF, wMethN, wmMeth, wsExprM, wsRetM, wmOne, wmCons, wMake, wmMake, wsSetMk, gToIntS, endsO, endO, startO, List.getElem?_cons_succ, wTryM, wIsO, rC, lt_lp, lt_rp, lt_lb, lt_rb, lt_cm, lt_mi, lt_0, lt_dg, ts_nt, gStr, wsSetV]
  by_cases hf0 : f = []
  · refine Br.t hf0 ?_
    subst hf0
    cases l with
    | false =>
      walk_at "s"
      exact q1 1 amt_one
    | true =>
      walk_at "s"
      exact q2 amt_no
  · refine Br.f hf0 ?_
    walk_at "s"
    refine Br.f hf0 ?_
    unfold C_MOST_FIGURES
    walk_at "s"
    refine ⟨by omega, Br.d (fun h => ?_) (fun h => ?_)⟩
    · exact q2 (amt_wide hf0 (by omega))
    · have h30 : ¬ 30 < f.length := by omega
      have ii : intText? (tx f) = some ((NumText.digitsVal f : Nat) : Int) := by
        have := intText_digits (x := tx f) (by rw [tx_cps]; exact hf) (by rw [tx_cps]; exact hf0) (by rw [tx_len]; omega)
        rwa [tx_cps] at this
      have bad := amt_bad (l := l) hf0 h30
      have val := amt_val (l := l) hf0 h30
      obtain ⟨a, r, e⟩ := List.exists_cons_of_ne_nil hf0
      have hh : f.head? = some a := by rw [e]; rfl
      have ha : atI f 0 = some a := by rw [e]; exact atI0
      walk_at "s"
      refine ⟨by omega, a, ha, ?_⟩
      refine Br.d (fun h0 => ?_) (fun h0 => ?_)
      · have h48 : f.head? = some 48 := by rw [hh]; simpa using h0
        cases l with
        | true =>
          walk_at "s"
          exact q2 (bad h48 (Or.inl rfl))
        | false =>
          walk_at "s"
          refine ⟨by omega, Br.d (fun h1 => ?_) (fun h1 => ?_)⟩
          · exact q2 (bad h48 (Or.inr (by omega)))
          · walk_at "s"
            refine ⟨_, ii, by omega, q1 _ (val fun _ z => ?_)⟩
            rcases z with z | z
            · cases z
            · omega
      · have h48 : f.head? ≠ some 48 := fun z => h0 (by rw [hh] at z; rw [Option.some.inj z])
        cases l with
        | true =>
          walk_at "s"
          exact ⟨_, ii, by omega, q1 _ (val fun z => absurd z h48)⟩
        | false =>
          walk_at "s"
          exact ⟨_, ii, by omega, q1 _ (val fun z => absurd z h48)⟩
theorem pure_Reader_amount (c : Cn) (ds : List D) (x : XS) (R : Cn → D → Prop) (h : SP_Reader_amount c ds x R) : W_Reader_amount (endsO R x) (startO 3 c ds) := by
  obtain ⟨s, i, rfl, rfl, hi, hs, q1, q2⟩ := h
  rw [amt_of] at q1 q2
  simp only [W_Reader_amount, rC, wVar, wOwn, wC, wOp, onBl, wtOn, wChain, trD, wtVal, wtNot, wAnd, wOr, wAndV, wOrV, wNotV, wIf, wNil, wCons, wTup, wLst, wUn, wNew, gAdd, gInt, gInt0, gMul, gCatF, gRepF, wOpF, gEq, gCmp, gInS, gIsN, isN, gIsB, gIdx, woNone, woSome, gSl, wSl, gSlF, wSlF, wB, wBF, gLen, gInt1, gInt2, gToInt, gListF, tyName, gIsT, wIsT, wCall, Rt.d, Cn.d, onNew, wCallF, wCallN, wCallNF, nlR, wgName, wgNil, wgCons, wgTup, wSeq, wSeqT, wSigns, wRng1, wRng2, wRng3, wRev, wEnum, wZip, wLc, wtYes, wsNil, wsBrk, wsCnt, wsExpr, wsRet, wsRetF, wsRetOwn, wsRetN, wIfS, wsSet, wsSetF, wsAsg, wsPar, wsAug, gApp, gExt, gPop0, gRev, wMut, wsSetIx, wFor, wsRaise, wSeqS, wFrz, wsCallM, wsPopAdd, endsOf, endM, endsM, startM, startE, wipeE, smallI, CPow, Br_true, Br_false, Br_not, rngD_eq, dC, dP, dI, ex_atI_map, atI0, atI1, atI2, kit1, kit2, kit3, kit4, kit5, kit6, kit7, kit8, kit9, kit10, kit11, kit12, kit13, kit14, kit15, kit16, kit17, kit18, kit19, kit20, kit21, kit22, kit23, kit24, kit25, kit26, kit27, kit28, kit29, kit30, kit31, kit32, kit33, kit34, kit35, sizeLine_eq, true_and, and_true, exists_eq_left', Option.some.injEq, List.map_cons, List.map_nil, List.length_cons, List.length_nil, List.length_map, List.length_append, List.cons_append, List.nil_append, List.set_cons_zero, List.set_cons_succ, List.getElem?_cons_zero, List.getElem?_cons_succ, List.getElem?_nil, Nat.reduceSub, Nat.reduceAdd, Nat.zero_add, Nat.sub_self, List.replicate_succ, List.replicate_zero, Bool.false_bne, Bool.true_bne, Bool.false_xor, Bool.true_xor, Bool.not_true, Bool.not_false, Bool.not_not, beq_self_eq_true, Bool.and_true, Bool.true_and, nl, nls, decide_true, decide_false, exists_eq_left, Bool.false_eq_true, Option.some_inj, Int.reduceToNat, Int.reducePow, Int.reduceMul, Int.reduceSub, Int.reduceAdd, Int.reduceNeg, Nat.reducePow, Nat.reduceLeDiff, Int.reduceLE, Int.reduceLT, Int.reduceAbs, Int.natAbs_neg, Nat.reduceLT, divW_eq, mulW_eq, Bool.or_true, Bool.true_or, cut_map, ← List.map_append, ← List.map_reverse, castN, eq_self, Int.reduceEq, deqC, deq_self, rep_map, nls_dP, wsAugIx, tx_cps, tx_len, tx_app, tx_one, tx_nil, tx_cut, tx_signs, tx_rep, lit_empty, tx_inj, wJoin, gJoin, wmCall, wmOpL, wmOpR, wmIxR, wmTup2, wsSetM, wsAppM, wForM, gSum, gAny, gAll, gLtD, gInT, gSorted, gAddT, wThaw, gMaxL, wIsE, wIsV, wCallE, wTry, DEnds.off, gInB, wDct0, wCntB, wIdxB, wTryF, gEqO, gInI, gIns, gTup, wDct1, gEqR, wFld, wsSetFld, wsAddFld, isO_rfl, wMeth, wMethF, wMethN, wmMeth, wsExprM, wsRetM, wmOne, wmCons, wMake, wmMake, wsSetMk, gToIntS, endsO, endO, startO, List.getElem?_cons_succ, wTryM, wIsO, rC, lt_lp, lt_rp, lt_lb, lt_rb, lt_cm, lt_mi, lt_0, lt_dg, ts_nt, gStr, wsSetV]
  refine ⟨r_sign', s, i, rfl, hi, hs, rfl, ?_⟩
  walk_at "s"
  have hz : decide ((s.drop i).take 1 = [45]) = less (s.drop i) := by
    unfold less
    rw [Bool.eq_iff_iff, decide_eq_true_eq, decide_eq_true_eq, one_head]
  rw [hz]
  cases hl : less (s.drop i) with
  | true =>
    rw [hl] at q1 q2
    walk_at "s"
    have hh : (s.drop i).head? = some 45 := by simpa [less] using hl
    have hj := drop_head hh
    refine ⟨s, i, 45, rfl, rfl, hi, hs, fun _ => ?_, fun z => absurd hh z⟩
    walk_at "s"
    refine ⟨s, i + 1, rfl, rfl, hj, hs, ?_⟩
    simp only [rC, List.drop_drop, if_true] at q1 q2 ⊢
    walk_at "s"
    have := rest_Reader_amount s (i + 1 + (figs (s.drop (i + 1))).length) true (figs (s.drop (i + 1))) x R figs_dg (Nat.le_trans figs_len (by rw [List.length_drop]; omega)) (fun k hk => ?_) fun hk => ?_
    · rw [hz, hl]
      exact this
    · have := q1 k _ (by rw [hk]; rfl)
      rw [← Nat.add_assoc] at this
      exact this
    · exact q2 (by rw [hk]; rfl)
  | false =>
    rw [hl] at q1 q2
    walk_at "s"
    refine ⟨s, i, rfl, rfl, hi, hs, ?_⟩
    simp only [rC, Bool.false_eq_true, if_false] at q1 q2 ⊢
    walk_at "s"
    have := rest_Reader_amount s (i + (figs (s.drop i)).length) false (figs (s.drop i)) x R figs_dg (Nat.le_trans figs_len (by rw [List.length_drop]; omega)) (fun k hk => ?_) fun hk => ?_
    · rw [hz, hl]
      exact this
    · have := q1 k _ (by rw [hk]; rfl)
      rw [Nat.zero_add] at this
      exact this
    · exact q2 (by rw [hk]; rfl)
--@ Times___init__
def SP_Times___init__ : SpecO := fun c ds _ R => ∃ a0 a1 : D, c = .obj "Times" [] [] ∧ ds = [a0, a1] ∧ R (.obj "Times" ["body", "number"] [a0, a1]) .non
theorem len_Times___init__ (c : Cn) (ds : List D) (x : XS) (R : Cn → D → Prop) (h : SP_Times___init__ c ds x R) : ds.length + 1 = ["self", "body", "number"].length := by
  obtain ⟨a0, a1, rfl, rfl, _⟩ := h; rfl
def W_Times___init__ : WS :=
  (wSeqS (wsAddFld 0 "Times" [] "body" (wVar 1))
  (wsAddFld 0 "Times" ["body"] "number" (wVar 2)))
theorem pure_Times___init__ (c : Cn) (ds : List D) (x : XS) (R : Cn → D → Prop) (h : SP_Times___init__ c ds x R) : W_Times___init__ (endsO R x) (startO 3 c ds) := by
  obtain ⟨a0, a1, rfl, rfl, q⟩ := h
  simp only [W_Times___init__, wVar, wOwn, wC, wOp, onBl, wtOn, wChain, trD, wtVal, wtNot, wAnd, wOr, wAndV, wOrV, wNotV, wIf, wNil, wCons, wTup, wLst, wUn, wNew, gAdd, gInt, gInt0, gMul, gCatF, gRepF, wOpF, gEq, gCmp, gInS, gIsN, isN, gIsB, gIdx, woNone, woSome, gSl, wSl, gSlF, wSlF, wB, wBF, gLen, gInt1, gInt2, gToInt, gListF, tyName, gIsT, wIsT, wCall, Rt.d, Cn.d, onNew, wCallF, wCallN, wCallNF, nlR, wgName, wgNil, wgCons, wgTup, wSeq, wSeqT, wSigns, wRng1, wRng2, wRng3, wRev, wEnum, wZip, wLc, wtYes, wsNil, wsBrk, wsCnt, wsExpr, wsRet, wsRetF, wsRetOwn, wsRetN, wIfS, wsSet, wsSetF, wsAsg, wsPar, wsAug, gApp, gExt, gPop0, gRev, wMut, wsSetIx, wFor, wsRaise, wSeqS, wFrz, wsCallM, wsPopAdd, endsOf, endM, endsM, startM, startE, wipeE, smallI, CPow, Br_true, Br_false, Br_not, rngD_eq, dC, dP, dI, ex_atI_map, atI0, atI1, atI2, kit1, kit2, kit3, kit4, kit5, kit6, kit7, kit8, kit9, kit10, kit11, kit12, kit13, kit14, kit15, kit16, kit17, kit18, kit19, kit20, kit21, kit22, kit23, kit24, kit25, kit26, kit27, kit28, kit29, kit30, kit31, kit32, kit33, kit34, kit35, sizeLine_eq, true_and, and_true, exists_eq_left', Option.some.injEq, List.map_cons, List.map_nil, List.length_cons, List.length_nil, List.length_map, List.length_append, List.cons_append, List.nil_append, List.set_cons_zero, List.set_cons_succ, List.getElem?_cons_zero, List.getElem?_cons_succ, List.getElem?_nil, Nat.reduceSub, Nat.reduceAdd, Nat.zero_add, Nat.sub_self, List.replicate_succ, List.replicate_zero, Bool.false_bne, Bool.true_bne, Bool.false_xor, Bool.true_xor, Bool.not_true, Bool.not_false, Bool.not_not, beq_self_eq_true, Bool.and_true, Bool.true_and, nl, nls, decide_true, decide_false, exists_eq_left, Bool.false_eq_true, Option.some_inj, Int.reduceToNat, Int.reducePow, Int.reduceMul, Int.reduceSub, Int.reduceAdd, Int.reduceNeg, Nat.reducePow, Nat.reduceLeDiff, Int.reduceLE, Int.reduceLT, Int.reduceAbs, Int.natAbs_neg, Nat.reduceLT, divW_eq, mulW_eq, Bool.or_true, Bool.true_or, cut_map, ← List.map_append, ← List.map_reverse, castN, eq_self, Int.reduceEq, deqC, deq_self, rep_map, nls_dP, wsAugIx, tx_cps, tx_len, tx_app, tx_one, tx_nil, tx_cut, tx_signs, tx_rep, lit_empty, tx_inj, wJoin, gJoin, wmCall, wmOpL, wmOpR, wmIxR, wmTup2, wsSetM, wsAppM, wForM, gSum, gAny, gAll, gLtD, gInT, gSorted, gAddT, wThaw, gMaxL, wIsE, wIsV, wCallE, wTry, DEnds.off, gInB, wDct0, wCntB, wIdxB, wTryF, gEqO, gInI, gIns, gTup, wDct1, gEqR, wFld, wsSetFld, wsAddFld, isO_rfl, wMeth, wMethF, wMethN, wmMeth, wsExprM, wsRetM, wmOne, wmCons, wMake, wmMake, wsSetMk, gToIntS, endsO, endO, startO, List.getElem?_cons_succ, wTryM, wIsO, rC, lt_lp, lt_rp, lt_lb, lt_rb, lt_cm, lt_mi, lt_0, lt_dg, ts_nt, gStr, wsSetV]
  exact q
--@ Back___init__
def SP_Back___init__ : SpecO := fun c ds _ R => ∃ a0 a1 : D, c = .obj "Back" [] [] ∧ ds = [a0, a1] ∧ R (.obj "Back" ["one", "other"] [a0, a1]) .non
theorem len_Back___init__ (c : Cn) (ds : List D) (x : XS) (R : Cn → D → Prop) (h : SP_Back___init__ c ds x R) : ds.length + 1 = ["self", "one", "other"].length := by
  obtain ⟨a0, a1, rfl, rfl, _⟩ := h; rfl
def W_Back___init__ : WS :=
  (wSeqS (wsAddFld 0 "Back" [] "one" (wVar 1))
  (wsAddFld 0 "Back" ["one"] "other" (wVar 2)))
theorem pure_Back___init__ (c : Cn) (ds : List D) (x : XS) (R : Cn → D → Prop) (h : SP_Back___init__ c ds x R) : W_Back___init__ (endsO R x) (startO 3 c ds) := by
  obtain ⟨a0, a1, rfl, rfl, q⟩ := h
  simp only [W_Back___init__, wVar, wOwn, wC, wOp, onBl, wtOn, wChain, trD, wtVal, wtNot, wAnd, wOr, wAndV, wOrV, wNotV, wIf, wNil, wCons, wTup, wLst, wUn, wNew, gAdd, gInt, gInt0, gMul, gCatF, gRepF, wOpF, gEq, gCmp, gInS, gIsN, isN, gIsB, gIdx, woNone, woSome, gSl, wSl, gSlF, wSlF, wB, wBF, gLen, gInt1, gInt2, gToInt, gListF, tyName, gIsT, wIsT, wCall, Rt.d, Cn.d, onNew, wCallF, wCallN, wCallNF, nlR, wgName, wgNil, wgCons, wgTup, wSeq, wSeqT, wSigns, wRng1, wRng2, wRng3, wRev, wEnum, wZip, wLc, wtYes, wsNil, wsBrk, wsCnt, wsExpr, wsRet, wsRetF, wsRetOwn, wsRetN, wIfS, wsSet, wsSetF, wsAsg, wsPar, wsAug, gApp, gExt, gPop0, gRev, wMut, wsSetIx, wFor, wsRaise, wSeqS, wFrz, wsCallM, wsPopAdd, endsOf, endM, endsM, startM, startE, wipeE, smallI, CPow, Br_true, Br_false, Br_not, rngD_eq, dC, dP, dI, ex_atI_map, atI0, atI1, atI2, kit1, kit2, kit3, kit4, kit5, kit6, kit7, kit8, kit9, kit10, kit11, kit12, kit13, kit14, kit15, kit16, kit17, kit18, kit19, kit20, kit21, kit22, kit23, kit24, kit25, kit26, kit27, kit28, kit29, kit30, kit31, kit32, kit33, kit34, kit35, sizeLine_eq, true_and, and_true, exists_eq_left', Option.some.injEq, List.map_cons, List.map_nil, List.length_cons, List.length_nil, List.length_map, List.length_append, List.cons_append, List.nil_append, List.set_cons_zero, List.set_cons_succ, List.getElem?_cons_zero, List.getElem?_cons_succ, List.getElem?_nil, Nat.reduceSub, Nat.reduceAdd, Nat.zero_add, Nat.sub_self, List.replicate_succ, List.replicate_zero, Bool.false_bne, Bool.true_bne, Bool.false_xor, Bool.true_xor, Bool.not_true, Bool.not_false, Bool.not_not, beq_self_eq_true, Bool.and_true, Bool.true_and, nl, nls, decide_true, decide_false, exists_eq_left, Bool.false_eq_true, Option.some_inj, Int.reduceToNat, Int.reducePow, Int.reduceMul, Int.reduceSub, Int.reduceAdd, Int.reduceNeg, Nat.reducePow, Nat.reduceLeDiff, Int.reduceLE, Int.reduceLT, Int.reduceAbs, Int.natAbs_neg, Nat.reduceLT, divW_eq, mulW_eq, Bool.or_true, Bool.true_or, cut_map, ← List.map_append, ← List.map_reverse, castN, eq_self, Int.reduceEq, deqC, deq_self, rep_map, nls_dP, wsAugIx, tx_cps, tx_len, tx_app, tx_one, tx_nil, tx_cut, tx_signs, tx_rep, lit_empty, tx_inj, wJoin, gJoin, wmCall, wmOpL, wmOpR, wmIxR, wmTup2, wsSetM, wsAppM, wForM, gSum, gAny, gAll, gLtD, gInT, gSorted, gAddT, wThaw, gMaxL, wIsE, wIsV, wCallE, wTry, DEnds.off, gInB, wDct0, wCntB, wIdxB, wTryF, gEqO, gInI, gIns, gTup, wDct1, gEqR, wFld, wsSetFld, wsAddFld, isO_rfl, wMeth, wMethF, wMethN, wmMeth, wsExprM, wsRetM, wmOne, wmCons, wMake, wmMake, wsSetMk, gToIntS, endsO, endO, startO, List.getElem?_cons_succ, wTryM, wIsO, rC, lt_lp, lt_rp, lt_lb, lt_rb, lt_cm, lt_mi, lt_0, lt_dg, ts_nt, gStr, wsSetV]
  exact q
--@ Parts___init__
def SP_Parts___init__ : SpecO := fun c ds _ R => ∃ xs : List D, c = .obj "Parts" [] [] ∧ ds = [.lst xs] ∧ xs.length ≤ 16777216 ∧ R (.obj "Parts" ["parts"] [.lst xs]) .non
theorem len_Parts___init__ (c : Cn) (ds : List D) (x : XS) (R : Cn → D → Prop) (h : SP_Parts___init__ c ds x R) : ds.length + 1 = ["self", "parts"].length := by
  obtain ⟨xs, rfl, rfl, _⟩ := h; rfl
def W_Parts___init__ : WS :=
  (wsAddFld 0 "Parts" [] "parts" (wNew (wBF gListF (wCons (wVar 1) wNil))))
theorem pure_Parts___init__ (c : Cn) (ds : List D) (x : XS) (R : Cn → D → Prop) (h : SP_Parts___init__ c ds x R) : W_Parts___init__ (endsO R x) (startO 2 c ds) := by
  obtain ⟨xs, rfl, rfl, hl, q⟩ := h
  simp only [W_Parts___init__, wVar, wOwn, wC, wOp, onBl, wtOn, wChain, trD, wtVal, wtNot, wAnd, wOr, wAndV, wOrV, wNotV, wIf, wNil, wCons, wTup, wLst, wUn, wNew, gAdd, gInt, gInt0, gMul, gCatF, gRepF, wOpF, gEq, gCmp, gInS, gIsN, isN, gIsB, gIdx, woNone, woSome, gSl, wSl, gSlF, wSlF, wB, wBF, gLen, gInt1, gInt2, gToInt, gListF, tyName, gIsT, wIsT, wCall, Rt.d, Cn.d, onNew, wCallF, wCallN, wCallNF, nlR, wgName, wgNil, wgCons, wgTup, wSeq, wSeqT, wSigns, wRng1, wRng2, wRng3, wRev, wEnum, wZip, wLc, wtYes, wsNil, wsBrk, wsCnt, wsExpr, wsRet, wsRetF, wsRetOwn, wsRetN, wIfS, wsSet, wsSetF, wsAsg, wsPar, wsAug, gApp, gExt, gPop0, gRev, wMut, wsSetIx, wFor, wsRaise, wSeqS, wFrz, wsCallM, wsPopAdd, endsOf, endM, endsM, startM, startE, wipeE, smallI, CPow, Br_true, Br_false, Br_not, rngD_eq, dC, dP, dI, ex_atI_map, atI0, atI1, atI2, kit1, kit2, kit3, kit4, kit5, kit6, kit7, kit8, kit9, kit10, kit11, kit12, kit13, kit14, kit15, kit16, kit17, kit18, kit19, kit20, kit21, kit22, kit23, kit24, kit25, kit26, kit27, kit28, kit29, kit30, kit31, kit32, kit33, kit34, kit35, sizeLine_eq, true_and, and_true, exists_eq_left', Option.some.injEq, List.map_cons, List.map_nil, List.length_cons, List.length_nil, List.length_map, List.length_append, List.cons_append, List.nil_append, List.set_cons_zero, List.set_cons_succ, List.getElem?_cons_zero, List.getElem?_cons_succ, List.getElem?_nil, Nat.reduceSub, Nat.reduceAdd, Nat.zero_add, Nat.sub_self, List.replicate_succ, List.replicate_zero, Bool.false_bne, Bool.true_bne, Bool.false_xor, Bool.true_xor, Bool.not_true, Bool.not_false, Bool.not_not, beq_self_eq_true, Bool.and_true, Bool.true_and, nl, nls, decide_true, decide_false, exists_eq_left, Bool.false_eq_true, Option.some_inj, Int.reduceToNat, Int.reducePow, Int.reduceMul, Int.reduceSub, Int.reduceAdd, Int.reduceNeg, Nat.reducePow, Nat.reduceLeDiff, Int.reduceLE, Int.reduceLT, Int.reduceAbs, Int.natAbs_neg, Nat.reduceLT, divW_eq, mulW_eq, Bool.or_true, Bool.true_or, cut_map, ← List.map_append, ← List.map_reverse, castN, eq_self, Int.reduceEq, deqC, deq_self, rep_map, nls_dP, wsAugIx, tx_cps, tx_len, tx_app, tx_one, tx_nil, tx_cut, tx_signs, tx_rep, lit_empty, tx_inj, wJoin, gJoin, wmCall, wmOpL, wmOpR, wmIxR, wmTup2, wsSetM, wsAppM, wForM, gSum, gAny, gAll, gLtD, gInT, gSorted, gAddT, wThaw, gMaxL, wIsE, wIsV, wCallE, wTry, DEnds.off, gInB, wDct0, wCntB, wIdxB, wTryF, gEqO, gInI, gIns, gTup, wDct1, gEqR, wFld, wsSetFld, wsAddFld, isO_rfl, wMeth, wMethF, wMethN, wmMeth, wsExprM, wsRetM, wmOne, wmCons, wMake, wmMake, wsSetMk, gToIntS, endsO, endO, startO, List.getElem?_cons_succ, wTryM, wIsO, rC, lt_lp, lt_rp, lt_lb, lt_rb, lt_cm, lt_mi, lt_0, lt_dg, ts_nt, gStr, wsSetV]
  exact q
--@ Reader_part
def SP_Reader_part (lv : Nat) : SpecO := fun c ds x R => ∃ (s : List Nat) (i n : Nat), c = rC s i ∧ ds = [.int (30 - (n : Int))] ∧ n ≤ 30 ∧ 2 * n + 1 ≤ lv ∧ i ≤ s.length ∧ s.length ≤ 1000000 ∧ (∀ t m, pPart n (s.drop i) = some (t, m) → R (rC s (i + m)) (tD t)) ∧ (pPart n (s.drop i) = none → x "NoText")
def SP_Reader_row (lv : Nat) : SpecO := fun c ds x R => ∃ (s : List Nat) (i n : Nat), c = rC s i ∧ ds = [.int (30 - (n : Int))] ∧ n ≤ 30 ∧ 2 * n + 2 ≤ lv ∧ i ≤ s.length ∧ s.length ≤ 1000000 ∧ (∀ ts m, pRow (pPart n) (s.drop i).length (s.drop i) = some (ts, m) → R (rC s (i + m)) (tD (.parts ts))) ∧ (pRow (pPart n) (s.drop i).length (s.drop i) = none → x "NoText")
theorem no_Reader_part (c : Cn) (ds : List D) (x : XS) (R : Cn → D → Prop) (h : SP_Reader_part 0 c ds x R) : False := by
  obtain ⟨s, i, n, _, _, _, h, _⟩ := h
  omega
theorem no_Reader_row (c : Cn) (ds : List D) (x : XS) (R : Cn → D → Prop) (h : SP_Reader_row 0 c ds x R) : False := by
  obtain ⟨s, i, n, _, _, _, h, _⟩ := h
  omega
theorem len_Reader_part (n : Nat) (c : Cn) (ds : List D) (x : XS) (R : Cn → D → Prop) (h : SP_Reader_part n c ds x R) : ds.length + 1 = ["self", "deep"].length := by
  obtain ⟨s, i, n, rfl, rfl, _⟩ := h; rfl
def W_Reader_part (SPr1 SPr2 : SpecO) : WS :=
  (wSeqS (wsSet 2 (wMethN ["Reader"] "sign" SP_Reader_sign (wOwn 0) wNil))
  (wSeqS (wIfS (wAnd (wtOn (wOp (gEq true) (wVar 2) (wC (.str "")))) (wtOn (wOp (gInS false) (wVar 2) (wC C_LETTERS))))
  (wSeqS (wsExprM (wmMeth 0 "Reader" ["signs", "at"] SP_Reader_want (wCons (wVar 2) wNil)))
  (wsRetM (wmMake "Piece" SP_Piece___init__ (wmCons (wVar 2) (wmOne (wmMeth 0 "Reader" ["signs", "at"] SP_Reader_amount wNil))))))
  wsNil)
  (wSeqS (wIfS (wtOn (wOp (gEq false) (wVar 1) (wC C_DEEPEST)))
  (wsRaise "NoText")
  wsNil)
  (wSeqS (wIfS (wtOn (wOp (gEq false) (wVar 2) (wC (.str "("))))
  (wSeqS (wsExprM (wmMeth 0 "Reader" ["signs", "at"] SP_Reader_want (wCons (wC (.str "(")) wNil)))
  (wSeqS (wsSetM 5 (wmMeth 0 "Reader" ["signs", "at"] SPr2 (wCons (wOp gAdd (wVar 1) (wC (.int 1))) wNil)))
  (wSeqS (wsExprM (wmMeth 0 "Reader" ["signs", "at"] SP_Reader_want (wCons (wC (.str ")")) wNil)))
  (wsRetM (wmMake "Times" SP_Times___init__ (wmCons (wVar 5) (wmOne (wmMeth 0 "Reader" ["signs", "at"] SP_Reader_amount wNil))))))))
  wsNil)
  (wSeqS (wsExprM (wmMeth 0 "Reader" ["signs", "at"] SP_Reader_want (wCons (wC (.str "[")) wNil)))
  (wSeqS (wsSetM 3 (wmMeth 0 "Reader" ["signs", "at"] SPr2 (wCons (wOp gAdd (wVar 1) (wC (.int 1))) wNil)))
  (wSeqS (wsExprM (wmMeth 0 "Reader" ["signs", "at"] SP_Reader_want (wCons (wC (.str ",")) wNil)))
  (wSeqS (wsSetM 4 (wmMeth 0 "Reader" ["signs", "at"] SPr2 (wCons (wOp gAdd (wVar 1) (wC (.int 1))) wNil)))
  (wSeqS (wsExprM (wmMeth 0 "Reader" ["signs", "at"] SP_Reader_want (wCons (wC (.str "]")) wNil)))
  (wsRet (wMake "Back" SP_Back___init__ (wCons (wVar 3) (wCons (wVar 4) wNil)))))))))))))
theorem pure_Reader_part (lv : Nat) (c : Cn) (ds : List D) (x : XS) (R : Cn → D → Prop) (h : SP_Reader_part (lv + 1) c ds x R) : W_Reader_part (SP_Reader_part lv) (SP_Reader_row lv) (endsO R x) (startO 6 c ds) := by
  obtain ⟨s, i, n, rfl, rfl, hn, hlv, hi, hs, q1, q2⟩ := h
  simp only [W_Reader_part, wVar, wOwn, wC, wOp, onBl, wtOn, wChain, trD, wtVal, wtNot, wAnd, wOr, wAndV, wOrV, wNotV, wIf, wNil, wCons, wTup, wLst, wUn, wNew, gAdd, gInt, gInt0, gMul, gCatF, gRepF, wOpF, gEq, gCmp, gInS, gIsN, isN, gIsB, gIdx, woNone, woSome, gSl, wSl, gSlF, wSlF, wB, wBF, gLen, gInt1, gInt2, gToInt, gListF, tyName, gIsT, wIsT, wCall, Rt.d, Cn.d, onNew, wCallF, wCallN, wCallNF, nlR, wgName, wgNil, wgCons, wgTup, wSeq, wSeqT, wSigns, wRng1, wRng2, wRng3, wRev, wEnum, wZip, wLc, wtYes, wsNil, wsBrk, wsCnt, wsExpr, wsRet, wsRetF, wsRetOwn, wsRetN, wIfS, wsSet, wsSetF, wsAsg, wsPar, wsAug, gApp, gExt, gPop0, gRev, wMut, wsSetIx, wFor, wsRaise, wSeqS, wFrz, wsCallM, wsPopAdd, endsOf, endM, endsM, startM, startE, wipeE, smallI, CPow, Br_true, Br_false, Br_not, rngD_eq, dC, dP, dI, ex_atI_map, atI0, atI1, atI2, kit1, kit2, kit3, kit4, kit5, kit6, kit7, kit8, kit9, kit10, kit11, kit12, kit13, kit14, kit15, kit16, kit17, kit18, kit19, kit20, kit21, kit22, kit23, kit24, kit25, kit26, kit27, kit28, kit29, kit30, kit31, kit32, kit33, kit34, kit35, sizeLine_eq, true_and, and_true, exists_eq_left', Option.some.injEq, List.map_cons, List.map_nil, List.length_cons, List.length_nil, List.length_map, List.length_append, List.cons_append, List.nil_append, List.set_cons_zero, List.set_cons_succ, List.getElem?_cons_zero, List.getElem?_cons_succ, List.getElem?_nil, Nat.reduceSub, Nat.reduceAdd, Nat.zero_add, Nat.sub_self, List.replicate_succ, List.replicate_zero, Bool.false_bne, Bool.true_bne, Bool.false_xor, Bool.true_xor, Bool.not_true, Bool.not_false, Bool.not_not, beq_self_eq_true, Bool.and_true, Bool.true_and, nl, nls, decide_true, decide_false, exists_eq_left, Bool.false_eq_true, Option.some_inj, Int.reduceToNat, Int.reducePow, Int.reduceMul, Int.reduceSub, Int.reduceAdd, Int.reduceNeg, Nat.reducePow, Nat.reduceLeDiff, Int.reduceLE, Int.reduceLT, Int.reduceAbs, Int.natAbs_neg, Nat.reduceLT, divW_eq, mulW_eq, Bool.or_true, Bool.true_or, cut_map, ← List.map_append, ← List.map_reverse, castN, eq_self, Int.reduceEq, deqC, deq_self, rep_map, nls_dP, wsAugIx, tx_cps, tx_len, tx_app, tx_one, tx_nil, tx_cut, tx_signs, tx_rep, lit_empty, tx_inj, wJoin, gJoin, wmCall, wmOpL, wmOpR, wmIxR, wmTup2, wsSetM, wsAppM, wForM, gSum, gAny, gAll, gLtD, gInT, gSorted, gAddT, wThaw, gMaxL, wIsE, wIsV, wCallE, wTry, DEnds.off, gInB, wDct0, wCntB, wIdxB, wTryF, gEqO, gInI, gIns, gTup, wDct1, gEqR, wFld, wsSetFld, wsAddFld, isO_rfl, wMeth, wMethF, wMethN, wmMeth, wsExprM, wsRetM, wmOne, wmCons, wMake, wmMake, wsSetMk, gToIntS, endsO, endO, startO, List.getElem?_cons_succ, wTryM, wIsO, rC, lt_lp, lt_rp, lt_lb, lt_rb, lt_cm, lt_mi, lt_0, lt_dg, ts_nt, gStr, wsSetV]
  refine ⟨r_sign', s, i, rfl, hi, hs, rfl, ?_⟩
  walk_at "s"
  rcases hd : s.drop i with _ | ⟨a, r⟩
  · simp only [List.take_nil]
    walk_at "s"
    rw [hd, pPart_nil] at q2
    unfold C_DEEPEST
    walk_at "s"
    refine Br.d (fun h => ?_) (fun h => ?_)
    · walk_at "s"
      exact q2 rfl
    · walk_at "s"
      refine Br.f (by simp) ?_
      walk_at "s"
      exact ⟨s, i, 91, rfl, rfl, hi, hs, fun z => (by rw [hd] at z; cases z), fun _ => q2 rfl⟩
  · obtain ⟨d1, d2, d3⟩ := drop_cons hd
    have e1 : (a :: r).take 1 = [a] := rfl
    rw [e1]
    rw [hd] at q1 q2
    have hh : (s.drop i).head? = some a := by rw [hd]; rfl
    unfold C_LETTERS
    rw [az2_tx]
    walk_at "s"
    have e2 : decide ([a] = ([] : List Nat)) = false := by simp
    rw [e2]
    walk_at "s"
    rw [az2_mem]
    refine Br.d (fun hz => ?_) (fun hz => ?_)
    · rw [pPart_l hz] at q1 q2
      walk_at "s"
      refine ⟨s, i, a, rfl, rfl, hi, hs, fun _ => ?_, fun z => absurd hh z⟩
      walk_at "s"
      refine ⟨s, i + 1, rfl, rfl, by omega, hs, fun k m hk => ?_, fun hk => ?_⟩
      · rw [d2] at hk
        walk_at "s"
        refine ⟨_, _, rfl, rfl, rfl, ?_⟩
        have := q1 (.pc (tx [a]) k) (1 + m) (by rw [hk])
        rw [← Nat.add_assoc] at this
        simp only [tD, rC] at this
        walk_at "s"
        exact this
      · rw [d2] at hk
        exact q2 (by rw [hk])
    · walk_at "s"
      unfold C_DEEPEST
      walk_at "s"
      cases n with
      | zero =>
        refine Br.t (by decide) ?_
        exact q2 (pPart_0 hz)
      | succ n =>
      refine Br.f (by omega) ?_
      walk_at "s"
      have hdeep : (30 - ((n + 1 : Nat) : Int) + 1) = 30 - (n : Int) := by omega
      have hdr : ∀ m, s.drop (i + 1 + m) = r.drop m := fun m => by rw [← List.drop_drop, d2]
      have hrl : r.length = s.length - (i + 1) := by rw [← d2, List.length_drop]
      have rows := fun (w : List Nat) (us : List Tm) (j : Nat) (hw : w.length ≤ 1000000) => pRow_ok (p := pPart n) (B := 1000000) (d := 2 * n + 1) (fun r t m => pPart_ok n r t m) w.length w us j hw
      refine Br.d (fun h40 => ?_) (fun h40 => ?_)
      · have h40' : a = 40 := by simpa using h40
        subst h40'
        rw [pPart_lp] at q1 q2
        walk_at "s"
        refine ⟨s, i, 40, rfl, rfl, hi, hs, fun _ => ?_, fun z => absurd hh z⟩
        walk_at "s"
        refine ⟨s, i + 1, n, rfl, by rw [hdeep], by omega, by omega, by omega, hs, fun ts m hk => ?_, fun hk => ?_⟩
        · rw [d2] at hk
          have hm := (rows r ts m (by omega) hk).2.2.2
          walk_at "s"
          refine ⟨s, i + 1 + m, 41, rfl, rfl, by omega, hs, fun z => ?_, fun z => ?_⟩
          · rw [hdr] at z
            have ep := pIn_some (row := fun r => pRow (pPart n) r.length r) hk z
            rw [ep] at q1 q2
            have hj := drop_head z
            walk_at "s"
            refine ⟨s, i + 1 + m + 1, rfl, rfl, by omega, hs, fun k j hk2 => ?_, fun hk2 => ?_⟩
            · rw [show i + 1 + m + 1 = i + 1 + (m + 1) by omega, hdr] at hk2
              walk_at "s"
              refine ⟨_, _, rfl, rfl, rfl, ?_⟩
              have := q1 (.times (.parts ts) k) (1 + (m + 1) + j) (by simp only [hk2])
              rw [show i + (1 + (m + 1) + j) = i + 1 + m + 1 + j by omega] at this
              rw [tD] at this
              walk_at "s"
              exact this
            · rw [show i + 1 + m + 1 = i + 1 + (m + 1) by omega, hdr] at hk2
              exact q2 (by simp only [hk2])
          · rw [hdr] at z
            have ep := pIn_bad (row := fun r => pRow (pPart n) r.length r) hk z
            rw [ep] at q2
            exact q2 rfl
        · rw [d2] at hk
          have ep := pIn_none (row := fun r => pRow (pPart n) r.length r) (c := 41) hk
          rw [ep] at q2
          exact q2 rfl
      · have h40' : a ≠ 40 := fun z => h40 (by rw [z])
        by_cases h91 : a = 91
        · subst h91
          rw [pPart_lb] at q1 q2
          walk_at "s"
          refine ⟨s, i, 91, rfl, rfl, hi, hs, fun _ => ?_, fun z => absurd hh z⟩
          walk_at "s"
          refine ⟨s, i + 1, n, rfl, by rw [hdeep], by omega, by omega, by omega, hs, fun ts m hk => ?_, fun hk => ?_⟩
          · rw [d2] at hk
            have hm := (rows r ts m (by omega) hk).2.2.2
            walk_at "s"
            refine ⟨s, i + 1 + m, 44, rfl, rfl, by omega, hs, fun z => ?_, fun z => ?_⟩
            · rw [hdr] at z
              have ep := pIn_some (row := fun r => pRow (pPart n) r.length r) hk z
              rw [ep] at q1 q2
              have hj := drop_head z
              have hdl : (r.drop (m + 1)).length = r.length - (m + 1) := List.length_drop
              walk_at "s"
              refine ⟨s, i + 1 + m + 1, n, rfl, by rw [hdeep], by omega, by omega, by omega, hs, fun us j hk2 => ?_, fun hk2 => ?_⟩
              · rw [show i + 1 + m + 1 = i + 1 + (m + 1) by omega, hdr] at hk2
                have hm2 := (rows _ us j (by omega) hk2).2.2.2
                walk_at "s"
                refine ⟨s, i + 1 + m + 1 + j, 93, rfl, rfl, by omega, hs, fun z2 => ?_, fun z2 => ?_⟩
                · rw [show i + 1 + m + 1 + j = i + 1 + (m + 1 + j) by omega, hdr, ← List.drop_drop] at z2
                  have ep2 := pIn_some (row := fun r => pRow (pPart n) r.length r) hk2 z2
                  walk_at "s"
                  refine ⟨_, _, rfl, rfl, ?_⟩
                  have := q1 (.back (.parts ts) (.parts us)) (1 + (m + 1) + (j + 1)) (by simp only [ep2])
                  rw [show i + (1 + (m + 1) + (j + 1)) = i + 1 + m + 1 + j + 1 by omega] at this
                  rw [tD] at this
                  walk_at "s"
                  exact this
                · rw [show i + 1 + m + 1 + j = i + 1 + (m + 1 + j) by omega, hdr, ← List.drop_drop] at z2
                  have ep2 := pIn_bad (row := fun r => pRow (pPart n) r.length r) hk2 z2
                  exact q2 (by simp only [ep2])
              · rw [show i + 1 + m + 1 = i + 1 + (m + 1) by omega, hdr] at hk2
                have ep2 := pIn_none (row := fun r => pRow (pPart n) r.length r) (c := 93) hk2
                exact q2 (by simp only [ep2])
            · rw [hdr] at z
              have ep := pIn_bad (row := fun r => pRow (pPart n) r.length r) hk z
              rw [ep] at q2
              exact q2 rfl
          · rw [d2] at hk
            have ep := pIn_none (row := fun r => pRow (pPart n) r.length r) (c := 44) hk
            rw [ep] at q2
            exact q2 rfl
        · walk_at "s"
          exact ⟨s, i, 91, rfl, rfl, hi, hs, fun z => absurd (Option.some.inj (hh.symm.trans z)) h91, fun _ => q2 (pPart_no hz h40' h91)⟩
--@ Reader_row
theorem len_Reader_row (n : Nat) (c : Cn) (ds : List D) (x : XS) (R : Cn → D → Prop) (h : SP_Reader_row n c ds x R) : ds.length + 1 = ["self", "deep"].length := by
  obtain ⟨s, i, n, rfl, rfl, _⟩ := h; rfl
def W_Reader_row (SPr1 SPr2 : SpecO) : WS :=
  (wSeqS (wsSetF 2 (wLst wNil))
  (wSeqS (wWhile (wtOn (wOp (gInT true) (wMethN ["Reader"] "sign" SP_Reader_sign (wOwn 0) wNil) (wTup (wCons (wC (.str "")) (wCons (wC (.str ")")) (wCons (wC (.str ",")) (wCons (wC (.str "]")) wNil)))))))
  (wsAppM 2 (wmMeth 0 "Reader" ["signs", "at"] SPr1 (wCons (wVar 1) wNil))))
  (wFrz 2 (wsRet (wMake "Parts" SP_Parts___init__ (wCons (wVar 2) wNil))))))
theorem pure_Reader_row (lv : Nat) (c : Cn) (ds : List D) (x : XS) (R : Cn → D → Prop) (h : SP_Reader_row (lv + 1) c ds x R) : W_Reader_row (SP_Reader_part lv) (SP_Reader_row lv) (endsO R x) (startO 3 c ds) := by
  obtain ⟨s, i, n, rfl, rfl, hn, hlv, hi, hs, q1, q2⟩ := h
  simp only [W_Reader_row, wVar, wOwn, wC, wOp, onBl, wtOn, wChain, trD, wtVal, wtNot, wAnd, wOr, wAndV, wOrV, wNotV, wIf, wNil, wCons, wTup, wLst, wUn, wNew, gAdd, gInt, gInt0, gMul, gCatF, gRepF, wOpF, gEq, gCmp, gInS, gIsN, isN, gIsB, gIdx, woNone, woSome, gSl, wSl, gSlF, wSlF, wB, wBF, gLen, gInt1, gInt2, gToInt, gListF, tyName, gIsT, wIsT, wCall, Rt.d, Cn.d, onNew, wCallF, wCallN, wCallNF, nlR, wgName, wgNil, wgCons, wgTup, wSeq, wSeqT, wSigns, wRng1, wRng2, wRng3, wRev, wEnum, wZip, wLc, wtYes, wsNil, wsBrk, wsCnt, wsExpr, wsRet, wsRetF, wsRetOwn, wsRetN, wIfS, wsSet, wsSetF, wsAsg, wsPar, wsAug, gApp, gExt, gPop0, gRev, wMut, wsSetIx, wFor, wsRaise, wSeqS, wFrz, wsCallM, wsPopAdd, endsOf, endM, endsM, startM, startE, wipeE, smallI, CPow, Br_true, Br_false, Br_not, rngD_eq, dC, dP, dI, ex_atI_map, atI0, atI1, atI2, kit1, kit2, kit3, kit4, kit5, kit6, kit7, kit8, kit9, kit10, kit11, kit12, kit13, kit14, kit15, kit16, kit17, kit18, kit19, kit20, kit21, kit22, kit23, kit24, kit25, kit26, kit27, kit28, kit29, kit30, kit31, kit32, kit33, kit34, kit35, sizeLine_eq, true_and, and_true, exists_eq_left', Option.some.injEq, List.map_cons, List.map_nil, List.length_cons, List.length_nil, List.length_map, List.length_append, List.cons_append, List.nil_append, List.set_cons_zero, List.set_cons_succ, List.getElem?_cons_zero, List.getElem?_cons_succ, List.getElem?_nil, Nat.reduceSub, Nat.reduceAdd, Nat.zero_add, Nat.sub_self, List.replicate_succ, List.replicate_zero, Bool.false_bne, Bool.true_bne, Bool.false_xor, Bool.true_xor, Bool.not_true, Bool.not_false, Bool.not_not, beq_self_eq_true, Bool.and_true, Bool.true_and, nl, nls, decide_true, decide_false, exists_eq_left, Bool.false_eq_true, Option.some_inj, Int.reduceToNat, Int.reducePow, Int.reduceMul, Int.reduceSub, Int.reduceAdd, Int.reduceNeg, Nat.reducePow, Nat.reduceLeDiff, Int.reduceLE, Int.reduceLT, Int.reduceAbs, Int.natAbs_neg, Nat.reduceLT, divW_eq, mulW_eq, Bool.or_true, Bool.true_or, cut_map, ← List.map_append, ← List.map_reverse, castN, eq_self, Int.reduceEq, deqC, deq_self, rep_map, nls_dP, wsAugIx, tx_cps, tx_len, tx_app, tx_one, tx_nil, tx_cut, tx_signs, tx_rep, lit_empty, tx_inj, wJoin, gJoin, wmCall, wmOpL, wmOpR, wmIxR, wmTup2, wsSetM, wsAppM, wForM, gSum, gAny, gAll, gLtD, gInT, gSorted, gAddT, wThaw, gMaxL, wIsE, wIsV, wCallE, wTry, DEnds.off, gInB, wDct0, wCntB, wIdxB, wTryF, gEqO, gInI, gIns, gTup, wDct1, gEqR, wFld, wsSetFld, wsAddFld, isO_rfl, wMeth, wMethF, wMethN, wmMeth, wsExprM, wsRetM, wmOne, wmCons, wMake, wmMake, wsSetMk, gToIntS, endsO, endO, startO, List.getElem?_cons_succ, wTryM, wIsO, rC, lt_lp, lt_rp, lt_lb, lt_rb, lt_cm, lt_mi, lt_0, lt_dg, ts_nt, gStr, wsSetV]
  refine while_ind (S := Nat × List Tm) (fun z => [.own true (rC s z.1), .fz (.int (30 - (n : Int))), .own false (.lst (z.2.map tD))])
    (fun m z => i ≤ z.1 ∧ z.1 ≤ s.length ∧ (s.drop z.1).length ≤ m ∧ z.2.length ≤ z.1 ∧ pRow (pPart n) (s.drop i).length (s.drop i) = match pRow (pPart n) m (s.drop z.1) with
      | none => none
      | some (ts, k) => some (z.2 ++ ts, (z.1 - i) + k)) ?_ (s.drop i).length (i, []) ⟨Nat.le_refl _, hi, Nat.le_refl _, Nat.zero_le _, ?_⟩
  · rintro m ⟨j, acc⟩ L ⟨h1, h2, h3, h4, h5⟩ ih
    simp only at h1 h2 h3 h4 h5
    simp only [rC]
    walk_at "s"
    refine ⟨r_sign', s, j, rfl, h2, hs, rfl, ?_⟩
    walk_at "s"
    refine ⟨stop_all, ?_⟩
    rw [stop_has]
    cases hst : stopR (s.drop j) with
    | true =>
      rw [pRow_stop hst] at h5
      have := q1 _ _ h5
      rw [List.append_nil, Nat.add_zero, show i + (j - i) = j by omega] at this
      walk_at "s"
      refine ⟨_, rfl, rfl, by simp; omega, ?_⟩
      rw [tD, tDs_map] at this
      walk_at "s"
      exact this
    | false =>
      cases m with
      | zero =>
        have : s.drop j = [] := List.length_eq_zero_iff.mp (by omega)
        rw [this] at hst
        simp [stopR] at hst
      | succ m =>
      rw [pRow_go hst] at h5
      walk_at "s"
      refine ⟨s, j, n, rfl, rfl, hn, by omega, h2, hs, fun t k hk => ?_, fun hk => ?_⟩
      · have hl : (s.drop j).length = s.length - j := List.length_drop
        obtain ⟨_, _, o1, o2⟩ := pPart_ok n _ t k (by omega) hk
        walk_at "s"
        refine ⟨by omega, ?_⟩
        have := ih m (j + k, acc ++ [t]) (by omega) ⟨by simp only; omega, by simp only; omega, by simp only [List.length_drop]; omega, by simp only [List.length_append, List.length_cons, List.length_nil]; omega, ?_⟩
        · simpa [rC] using this
        · rw [h5, hk]
          simp only [List.drop_drop]
          cases pRow (pPart n) m (s.drop (j + k)) with
          | none => rfl
          | some z =>
            simp
            omega
      · rw [hk] at h5
        exact q2 h5
  · cases pRow (pPart n) (s.drop i).length (s.drop i) with
    | none => rfl
    | some z => simp
--@ read
def SP_read : Spec := fun ds x R => ∃ d, ds = [d] ∧ ((∃ s : List Nat, d = .str (tx s) ∧ s.length ≤ 1000000 ∧ (∀ t, parse s = some t → R (.val (tD t))) ∧ (parse s = none → x "NoText")) ∨
  ((d = .non ∨ (∃ i, d = .int i) ∨ (∃ b, d = .bl b) ∨ (∃ xs, d = .lst xs) ∨ (∃ xs, d = .tup xs) ∨ ∃ ks xs, d = .dct ks xs) ∧ x "NoText"))
theorem len_read (ds : List D) (x : XS) (R : Rt → Prop) (h : SP_read ds x R) : ds.length = ["text"].length := by
  obtain ⟨d, rfl, _⟩ := h; rfl
def W_read : WS :=
  (wSeqS (wIfS (wtNot (wtVal (wIsT "str" (wVar 0))))
  (wsRaise "NoText")
  wsNil)
  (wSeqS (wsSetMk 1 "Reader" SP_Reader___init__ (wCons (wVar 0) wNil))
  (wSeqS (wsSetM 2 (wmMeth 1 "Reader" ["signs", "at"] (SP_Reader_row 64) (wCons (wC (.int 0)) wNil)))
  (wSeqS (wIfS (wtOn (wOp (gEq true) (wMethN ["Reader"] "sign" SP_Reader_sign (wOwn 1) wNil) (wC (.str ""))))
  (wsRaise "NoText")
  wsNil)
  (wsRet (wVar 2))))))
theorem pure_read (ds : List D) (x : XS) (R : Rt → Prop) (h : SP_read ds x R) : W_read (endsOf R x) (startE 3 ds) := by
  obtain ⟨d, rfl, ⟨s, rfl, hs, q1, q2⟩ | ⟨hd, q⟩⟩ := h
  · simp only [W_read, wVar, wOwn, wC, wOp, onBl, wtOn, wChain, trD, wtVal, wtNot, wAnd, wOr, wAndV, wOrV, wNotV, wIf, wNil, wCons, wTup, wLst, wUn, wNew, gAdd, gInt, gInt0, gMul, gCatF, gRepF, wOpF, gEq, gCmp, gInS, gIsN, isN, gIsB, gIdx, woNone, woSome, gSl, wSl, gSlF, wSlF, wB, wBF, gLen, gInt1, gInt2, gToInt, gListF, tyName, gIsT, wIsT, wCall, Rt.d, Cn.d, onNew, wCallF, wCallN, wCallNF, nlR, wgName, wgNil, wgCons, wgTup, wSeq, wSeqT, wSigns, wRng1, wRng2, wRng3, wRev, wEnum, wZip, wLc, wtYes, wsNil, wsBrk, wsCnt, wsExpr, wsRet, wsRetF, wsRetOwn, wsRetN, wIfS, wsSet, wsSetF, wsAsg, wsPar, wsAug, gApp, gExt, gPop0, gRev, wMut, wsSetIx, wFor, wsRaise, wSeqS, wFrz, wsCallM, wsPopAdd, endsOf, endM, endsM, startM, startE, wipeE, smallI, CPow, Br_true, Br_false, Br_not, rngD_eq, dC, dP, dI, ex_atI_map, atI0, atI1, atI2, kit1, kit2, kit3, kit4, kit5, kit6, kit7, kit8, kit9, kit10, kit11, kit12, kit13, kit14, kit15, kit16, kit17, kit18, kit19, kit20, kit21, kit22, kit23, kit24, kit25, kit26, kit27, kit28, kit29, kit30, kit31, kit32, kit33, kit34, kit35, sizeLine_eq, true_and, and_true, exists_eq_left', Option.some.injEq, List.map_cons, List.map_nil, List.length_cons, List.length_nil, List.length_map, List.length_append, List.cons_append, List.nil_append, List.set_cons_zero, List.set_cons_succ, List.getElem?_cons_zero, List.getElem?_cons_succ, List.getElem?_nil, Nat.reduceSub, Nat.reduceAdd, Nat.zero_add, Nat.sub_self, List.replicate_succ, List.replicate_zero, Bool.false_bne, Bool.true_bne, Bool.false_xor, Bool.true_xor, Bool.not_true, Bool.not_false, Bool.not_not, beq_self_eq_true, Bool.and_true, Bool.true_and, nl, nls, decide_true, decide_false, exists_eq_left, Bool.false_eq_true, Option.some_inj, Int.reduceToNat, Int.reducePow, Int.reduceMul, Int.reduceSub, Int.reduceAdd, Int.reduceNeg, Nat.reducePow, Nat.reduceLeDiff, Int.reduceLE, Int.reduceLT, Int.reduceAbs, Int.natAbs_neg, Nat.reduceLT, divW_eq, mulW_eq, Bool.or_true, Bool.true_or, cut_map, ← List.map_append, ← List.map_reverse, castN, eq_self, Int.reduceEq, deqC, deq_self, rep_map, nls_dP, wsAugIx, tx_cps, tx_len, tx_app, tx_one, tx_nil, tx_cut, tx_signs, tx_rep, lit_empty, tx_inj, wJoin, gJoin, wmCall, wmOpL, wmOpR, wmIxR, wmTup2, wsSetM, wsAppM, wForM, gSum, gAny, gAll, gLtD, gInT, gSorted, gAddT, wThaw, gMaxL, wIsE, wIsV, wCallE, wTry, DEnds.off, gInB, wDct0, wCntB, wIdxB, wTryF, gEqO, gInI, gIns, gTup, wDct1, gEqR, wFld, wsSetFld, wsAddFld, isO_rfl, wMeth, wMethF, wMethN, wmMeth, wsExprM, wsRetM, wmOne, wmCons, wMake, wmMake, wsSetMk, gToIntS, endsO, endO, startO, List.getElem?_cons_succ, wTryM, wIsO, rC, lt_lp, lt_rp, lt_lb, lt_rb, lt_cm, lt_mi, lt_0, lt_dg, ts_nt, gStr, wsSetV]
    refine ⟨_, rfl, rfl, rfl, ?_⟩
    walk_at "s"
    refine ⟨s, 0, 30, rfl, rfl, by omega, by omega, by omega, hs, fun ts m hk => ?_, fun hk => ?_⟩
    · rw [List.drop_zero] at hk
      have hm := (pRow_ok (p := pPart 30) (B := 1000000) (d := 61) (fun r t m => pPart_ok 30 r t m) _ _ ts m hs hk).2.2.2
      have hp : parse s = if s.drop m = [] then some (.parts ts) else none := by
        unfold parse
        rw [hk]
      rw [hp] at q1 q2
      rw [Nat.zero_add]
      walk_at "s"
      refine ⟨r_sign', s, m, rfl, hm, hs, rfl, ?_⟩
      walk_at "s"
      rcases hd : s.drop m with _ | ⟨a, r⟩
      · simp only [List.take_nil]
        walk_at "s"
        exact q1 _ (if_pos hd)
      · have e1 : (a :: r).take 1 = [a] := rfl
        rw [e1]
        have e2 : decide ([a] = ([] : List Nat)) = false := by simp
        rw [e2]
        walk_at "s"
        exact q2 (if_neg (by rw [hd]; simp))
    · rw [List.drop_zero] at hk
      refine q2 ?_
      unfold parse
      rw [hk]
  · rcases hd with rfl | ⟨i, rfl⟩ | ⟨b, rfl⟩ | ⟨xs, rfl⟩ | ⟨xs, rfl⟩ | ⟨ks, xs, rfl⟩
    all_goals
      simp only [W_read, wVar, wOwn, wC, wOp, onBl, wtOn, wChain, trD, wtVal, wtNot, wAnd, wOr, wAndV, wOrV, wNotV, wIf, wNil, wCons, wTup, wLst, wUn, wNew, gAdd, gInt, gInt0, gMul, gCatF, gRepF, wOpF, gEq, gCmp, gInS, gIsN, isN, gIsB, gIdx, woNone, woSome, gSl, wSl, gSlF, wSlF, wB, wBF, gLen, gInt1, gInt2, gToInt, gListF, tyName, gIsT, wIsT, wCall, Rt.d, Cn.d, onNew, wCallF, wCallN, wCallNF, nlR, wgName, wgNil, wgCons, wgTup, wSeq, wSeqT, wSigns, wRng1, wRng2, wRng3, wRev, wEnum, wZip, wLc, wtYes, wsNil, wsBrk, wsCnt, wsExpr, wsRet, wsRetF, wsRetOwn, wsRetN, wIfS, wsSet, wsSetF, wsAsg, wsPar, wsAug, gApp, gExt, gPop0, gRev, wMut, wsSetIx, wFor, wsRaise, wSeqS, wFrz, wsCallM, wsPopAdd, endsOf, endM, endsM, startM, startE, wipeE, smallI, CPow, Br_true, Br_false, Br_not, rngD_eq, dC, dP, dI, ex_atI_map, atI0, atI1, atI2, kit1, kit2, kit3, kit4, kit5, kit6, kit7, kit8, kit9, kit10, kit11, kit12, kit13, kit14, kit15, kit16, kit17, kit18, kit19, kit20, kit21, kit22, kit23, kit24, kit25, kit26, kit27, kit28, kit29, kit30, kit31, kit32, kit33, kit34, kit35, sizeLine_eq, true_and, and_true, exists_eq_left', Option.some.injEq, List.map_cons, List.map_nil, List.length_cons, List.length_nil, List.length_map, List.length_append, List.cons_append, List.nil_append, List.set_cons_zero, List.set_cons_succ, List.getElem?_cons_zero, List.getElem?_cons_succ, List.getElem?_nil, Nat.reduceSub, Nat.reduceAdd, Nat.zero_add, Nat.sub_self, List.replicate_succ, List.replicate_zero, Bool.false_bne, Bool.true_bne, Bool.false_xor, Bool.true_xor, Bool.not_true, Bool.not_false, Bool.not_not, beq_self_eq_true, Bool.and_true, Bool.true_and, nl, nls, decide_true, decide_false, exists_eq_left, Bool.false_eq_true, Option.some_inj, Int.reduceToNat, Int.reducePow, Int.reduceMul, Int.reduceSub, Int.reduceAdd, Int.reduceNeg, Nat.reducePow, Nat.reduceLeDiff, Int.reduceLE, Int.reduceLT, Int.reduceAbs, Int.natAbs_neg, Nat.reduceLT, divW_eq, mulW_eq, Bool.or_true, Bool.true_or, cut_map, ← List.map_append, ← List.map_reverse, castN, eq_self, Int.reduceEq, deqC, deq_self, rep_map, nls_dP, wsAugIx, tx_cps, tx_len, tx_app, tx_one, tx_nil, tx_cut, tx_signs, tx_rep, lit_empty, tx_inj, wJoin, gJoin, wmCall, wmOpL, wmOpR, wmIxR, wmTup2, wsSetM, wsAppM, wForM, gSum, gAny, gAll, gLtD, gInT, gSorted, gAddT, wThaw, gMaxL, wIsE, wIsV, wCallE, wTry, DEnds.off, gInB, wDct0, wCntB, wIdxB, wTryF, gEqO, gInI, gIns, gTup, wDct1, gEqR, wFld, wsSetFld, wsAddFld, isO_rfl, wMeth, wMethF, wMethN, wmMeth, wsExprM, wsRetM, wmOne, wmCons, wMake, wmMake, wsSetMk, gToIntS, endsO, endO, startO, List.getElem?_cons_succ, wTryM, wIsO, rC, lt_lp, lt_rp, lt_lb, lt_rb, lt_cm, lt_mi, lt_0, lt_dg, ts_nt, gStr, wsSetV]
      exact q
--@ law_others
def SP_law_others : Addr → Str → Spec := fun a n ds _ R => ds = [.ref a] ∧ n = "NoText" ∧ R (.val (.lst (List.replicate 9 (.bl false))))
theorem len_law_others (a : Addr) (n : Str) (ds : List D) (x : XS) (R : Rt → Prop) (h : SP_law_others a n ds x R) : ds.length = ["_law_e"].length := by
  obtain ⟨rfl, _⟩ := h; rfl
def W_law_others (eA : Addr) (eN : Str) : WS :=
  (wSeqS (wsSet 1 (wNew (wLst (wCons (wIsE eA eN "NoCord" (wVar 0)) (wCons (wIsE eA eN "NoLine" (wVar 0)) (wCons (wIsE eA eN "NoMove" (wVar 0)) (wCons (wIsE eA eN "NoNails" (wVar 0)) wNil)))))))
  (wSeqS (wsSet 1 (wOp gAdd (wVar 1) (wNew (wLst (wCons (wIsE eA eN "NoName" (wVar 0)) (wCons (wIsE eA eN "NoNumber" (wVar 0)) (wCons (wIsE eA eN "NoRule" (wVar 0)) (wCons (wIsE eA eN "TooMany" (wVar 0)) wNil))))))))
  (wsRet (wOp gAdd (wVar 1) (wNew (wLst (wCons (wIsE eA eN "TooLong" (wVar 0)) wNil)))))))
theorem pure_law_others (a : Addr) (n : Str) (ds : List D) (R : Rt → Prop) (h : SP_law_others a n ds (fun _ => False) R) : W_law_others a n (endsOf R fun _ => False) (startE 2 ds) := by
  obtain ⟨rfl, rfl, q⟩ := h
  simp only [W_law_others, wVar, wOwn, wC, wOp, onBl, wtOn, wChain, trD, wtVal, wtNot, wAnd, wOr, wAndV, wOrV, wNotV, wIf, wNil, wCons, wTup, wLst, wUn, wNew, gAdd, gInt, gInt0, gMul, gCatF, gRepF, wOpF, gEq, gCmp, gInS, gIsN, isN, gIsB, gIdx, woNone, woSome, gSl, wSl, gSlF, wSlF, wB, wBF, gLen, gInt1, gInt2, gToInt, gListF, tyName, gIsT, wIsT, wCall, Rt.d, Cn.d, onNew, wCallF, wCallN, wCallNF, nlR, wgName, wgNil, wgCons, wgTup, wSeq, wSeqT, wSigns, wRng1, wRng2, wRng3, wRev, wEnum, wZip, wLc, wtYes, wsNil, wsBrk, wsCnt, wsExpr, wsRet, wsRetF, wsRetOwn, wsRetN, wIfS, wsSet, wsSetF, wsAsg, wsPar, wsAug, gApp, gExt, gPop0, gRev, wMut, wsSetIx, wFor, wsRaise, wSeqS, wFrz, wsCallM, wsPopAdd, endsOf, endM, endsM, startM, startE, wipeE, smallI, CPow, Br_true, Br_false, Br_not, rngD_eq, dC, dP, dI, ex_atI_map, atI0, atI1, atI2, kit1, kit2, kit3, kit4, kit5, kit6, kit7, kit8, kit9, kit10, kit11, kit12, kit13, kit14, kit15, kit16, kit17, kit18, kit19, kit20, kit21, kit22, kit23, kit24, kit25, kit26, kit27, kit28, kit29, kit30, kit31, kit32, kit33, kit34, kit35, sizeLine_eq, true_and, and_true, exists_eq_left', Option.some.injEq, List.map_cons, List.map_nil, List.length_cons, List.length_nil, List.length_map, List.length_append, List.cons_append, List.nil_append, List.set_cons_zero, List.set_cons_succ, List.getElem?_cons_zero, List.getElem?_cons_succ, List.getElem?_nil, Nat.reduceSub, Nat.reduceAdd, Nat.zero_add, Nat.sub_self, List.replicate_succ, List.replicate_zero, Bool.false_bne, Bool.true_bne, Bool.false_xor, Bool.true_xor, Bool.not_true, Bool.not_false, Bool.not_not, beq_self_eq_true, Bool.and_true, Bool.true_and, nl, nls, decide_true, decide_false, exists_eq_left, Bool.false_eq_true, Option.some_inj, Int.reduceToNat, Int.reducePow, Int.reduceMul, Int.reduceSub, Int.reduceAdd, Int.reduceNeg, Nat.reducePow, Nat.reduceLeDiff, Int.reduceLE, Int.reduceLT, Int.reduceAbs, Int.natAbs_neg, Nat.reduceLT, divW_eq, mulW_eq, Bool.or_true, Bool.true_or, cut_map, ← List.map_append, ← List.map_reverse, castN, eq_self, Int.reduceEq, deqC, deq_self, rep_map, nls_dP, wsAugIx, tx_cps, tx_len, tx_app, tx_one, tx_nil, tx_cut, tx_signs, tx_rep, lit_empty, tx_inj, wJoin, gJoin, wmCall, wmOpL, wmOpR, wmIxR, wmTup2, wsSetM, wsAppM, wForM, gSum, gAny, gAll, gLtD, gInT, gSorted, gAddT, wThaw, gMaxL, wIsE, wIsV, wCallE, wTry, DEnds.off, gInB, wDct0, wCntB, wIdxB, wTryF, gEqO, gInI, gIns, gTup, wDct1, gEqR, wFld, wsSetFld, wsAddFld, isO_rfl, wMeth, wMethF, wMethN, wmMeth, wsExprM, wsRetM, wmOne, wmCons, wMake, wmMake, wsSetMk, gToIntS, endsO, endO, startO, List.getElem?_cons_succ, wTryM, wIsO, rC, lt_lp, lt_rp, lt_lb, lt_rb, lt_cm, lt_mi, lt_0, lt_dg, ts_nt, gStr, wsSetV]
  rw [show isSubN ("NoText" : Str) ("NoCord" : Str) = false by decide, show isSubN ("NoText" : Str) ("NoLine" : Str) = false by decide, show isSubN ("NoText" : Str) ("NoMove" : Str) = false by decide, show isSubN ("NoText" : Str) ("NoNails" : Str) = false by decide, show isSubN ("NoText" : Str) ("NoName" : Str) = false by decide, show isSubN ("NoText" : Str) ("NoNumber" : Str) = false by decide, show isSubN ("NoText" : Str) ("NoRule" : Str) = false by decide, show isSubN ("NoText" : Str) ("TooLong" : Str) = false by decide, show isSubN ("NoText" : Str) ("TooMany" : Str) = false by decide]
  exact q
--@ law_said
def SP_law_said : Spec := fun ds _ R => (∃ s : List Nat, ds = [.str (tx s)] ∧ s.length ≤ 1000000 ∧ (∀ t, parse s = some t → R (.val (tD t))) ∧ (parse s = none → R (.val .non))) ∨
  ∃ d, ds = [d] ∧ (d = .non ∨ (∃ i, d = .int i) ∨ (∃ b, d = .bl b) ∨ (∃ xs, d = .lst xs) ∨ (∃ xs, d = .tup xs) ∨ ∃ ks xs, d = .dct ks xs) ∧ R (.val .non)
theorem len_law_said (ds : List D) (x : XS) (R : Rt → Prop) (h : SP_law_said ds x R) : ds.length = ["_law_thing"].length := by
  rcases h with ⟨l, rfl, _⟩ | ⟨d, rfl, _⟩ <;> rfl
def W_law_said : WS :=
  (wSeqS (wsSet 1 (wC .non))
  (wSeqS (wTry CN 2 SP_read (wCons (wVar 0) wNil) (fun r ρ => ρ.set 1 (.fz r.d)) (fun eA eN => (wSeqS (wIfS (wOr (wtNot (wtVal (wIsE eA eN "NoText" (wVar 2)))) (wOr (wtNot (wtVal (wIsV eA (wVar 2)))) (wtOn (wOp (gInB false) (wC (.bl true)) (wCallE (SP_law_others eA eN) (wCons (wVar 2) wNil))))))
  (wsRet (wC (.str "another refusal")))
  wsNil)
  (wsRet (wC .non)))))
  (wsRet (wVar 1))))
theorem pure_law_said (ds : List D) (x : XS) (R : Rt → Prop) (h : SP_law_said ds x R) : W_law_said (endsOf R x) (startE 3 ds) := by
  rcases h with ⟨s, rfl, hs, q1, q2⟩ | ⟨d, rfl, hd, q⟩
  · simp only [W_law_said, wVar, wOwn, wC, wOp, onBl, wtOn, wChain, trD, wtVal, wtNot, wAnd, wOr, wAndV, wOrV, wNotV, wIf, wNil, wCons, wTup, wLst, wUn, wNew, gAdd, gInt, gInt0, gMul, gCatF, gRepF, wOpF, gEq, gCmp, gInS, gIsN, isN, gIsB, gIdx, woNone, woSome, gSl, wSl, gSlF, wSlF, wB, wBF, gLen, gInt1, gInt2, gToInt, gListF, tyName, gIsT, wIsT, wCall, Rt.d, Cn.d, onNew, wCallF, wCallN, wCallNF, nlR, wgName, wgNil, wgCons, wgTup, wSeq, wSeqT, wSigns, wRng1, wRng2, wRng3, wRev, wEnum, wZip, wLc, wtYes, wsNil, wsBrk, wsCnt, wsExpr, wsRet, wsRetF, wsRetOwn, wsRetN, wIfS, wsSet, wsSetF, wsAsg, wsPar, wsAug, gApp, gExt, gPop0, gRev, wMut, wsSetIx, wFor, wsRaise, wSeqS, wFrz, wsCallM, wsPopAdd, endsOf, endM, endsM, startM, startE, wipeE, smallI, CPow, Br_true, Br_false, Br_not, rngD_eq, dC, dP, dI, ex_atI_map, atI0, atI1, atI2, kit1, kit2, kit3, kit4, kit5, kit6, kit7, kit8, kit9, kit10, kit11, kit12, kit13, kit14, kit15, kit16, kit17, kit18, kit19, kit20, kit21, kit22, kit23, kit24, kit25, kit26, kit27, kit28, kit29, kit30, kit31, kit32, kit33, kit34, kit35, sizeLine_eq, true_and, and_true, exists_eq_left', Option.some.injEq, List.map_cons, List.map_nil, List.length_cons, List.length_nil, List.length_map, List.length_append, List.cons_append, List.nil_append, List.set_cons_zero, List.set_cons_succ, List.getElem?_cons_zero, List.getElem?_cons_succ, List.getElem?_nil, Nat.reduceSub, Nat.reduceAdd, Nat.zero_add, Nat.sub_self, List.replicate_succ, List.replicate_zero, Bool.false_bne, Bool.true_bne, Bool.false_xor, Bool.true_xor, Bool.not_true, Bool.not_false, Bool.not_not, beq_self_eq_true, Bool.and_true, Bool.true_and, nl, nls, decide_true, decide_false, exists_eq_left, Bool.false_eq_true, Option.some_inj, Int.reduceToNat, Int.reducePow, Int.reduceMul, Int.reduceSub, Int.reduceAdd, Int.reduceNeg, Nat.reducePow, Nat.reduceLeDiff, Int.reduceLE, Int.reduceLT, Int.reduceAbs, Int.natAbs_neg, Nat.reduceLT, divW_eq, mulW_eq, Bool.or_true, Bool.true_or, cut_map, ← List.map_append, ← List.map_reverse, castN, eq_self, Int.reduceEq, deqC, deq_self, rep_map, nls_dP, wsAugIx, tx_cps, tx_len, tx_app, tx_one, tx_nil, tx_cut, tx_signs, tx_rep, lit_empty, tx_inj, wJoin, gJoin, wmCall, wmOpL, wmOpR, wmIxR, wmTup2, wsSetM, wsAppM, wForM, gSum, gAny, gAll, gLtD, gInT, gSorted, gAddT, wThaw, gMaxL, wIsE, wIsV, wCallE, wTry, DEnds.off, gInB, wDct0, wCntB, wIdxB, wTryF, gEqO, gInI, gIns, gTup, wDct1, gEqR, wFld, wsSetFld, wsAddFld, isO_rfl, wMeth, wMethF, wMethN, wmMeth, wsExprM, wsRetM, wmOne, wmCons, wMake, wmMake, wsSetMk, gToIntS, endsO, endO, startO, List.getElem?_cons_succ, wTryM, wIsO, rC, lt_lp, lt_rp, lt_lb, lt_rb, lt_cm, lt_mi, lt_0, lt_dg, ts_nt, gStr, wsSetV]
    refine ⟨_, rfl, .inl ⟨s, rfl, hs, fun t ht => ?_, fun ht => ?_⟩⟩
    · have := q1 t ht
      walk_at "s"
      exact this
    · refine ⟨by decide, fun a => ?_⟩
      have q2 := q2 ht
      rw [show isSubN ("NoText" : Str) ("NoText" : Str) = true by decide]
      walk_at "s"
      refine ⟨rfl, ?_⟩
      walk_at "s"
      exact ⟨List.replicate 9 false, by simp, by rw [show decide (true ∈ List.replicate 9 false) = false by decide]; exact q2⟩
  · simp only [W_law_said, wVar, wOwn, wC, wOp, onBl, wtOn, wChain, trD, wtVal, wtNot, wAnd, wOr, wAndV, wOrV, wNotV, wIf, wNil, wCons, wTup, wLst, wUn, wNew, gAdd, gInt, gInt0, gMul, gCatF, gRepF, wOpF, gEq, gCmp, gInS, gIsN, isN, gIsB, gIdx, woNone, woSome, gSl, wSl, gSlF, wSlF, wB, wBF, gLen, gInt1, gInt2, gToInt, gListF, tyName, gIsT, wIsT, wCall, Rt.d, Cn.d, onNew, wCallF, wCallN, wCallNF, nlR, wgName, wgNil, wgCons, wgTup, wSeq, wSeqT, wSigns, wRng1, wRng2, wRng3, wRev, wEnum, wZip, wLc, wtYes, wsNil, wsBrk, wsCnt, wsExpr, wsRet, wsRetF, wsRetOwn, wsRetN, wIfS, wsSet, wsSetF, wsAsg, wsPar, wsAug, gApp, gExt, gPop0, gRev, wMut, wsSetIx, wFor, wsRaise, wSeqS, wFrz, wsCallM, wsPopAdd, endsOf, endM, endsM, startM, startE, wipeE, smallI, CPow, Br_true, Br_false, Br_not, rngD_eq, dC, dP, dI, ex_atI_map, atI0, atI1, atI2, kit1, kit2, kit3, kit4, kit5, kit6, kit7, kit8, kit9, kit10, kit11, kit12, kit13, kit14, kit15, kit16, kit17, kit18, kit19, kit20, kit21, kit22, kit23, kit24, kit25, kit26, kit27, kit28, kit29, kit30, kit31, kit32, kit33, kit34, kit35, sizeLine_eq, true_and, and_true, exists_eq_left', Option.some.injEq, List.map_cons, List.map_nil, List.length_cons, List.length_nil, List.length_map, List.length_append, List.cons_append, List.nil_append, List.set_cons_zero, List.set_cons_succ, List.getElem?_cons_zero, List.getElem?_cons_succ, List.getElem?_nil, Nat.reduceSub, Nat.reduceAdd, Nat.zero_add, Nat.sub_self, List.replicate_succ, List.replicate_zero, Bool.false_bne, Bool.true_bne, Bool.false_xor, Bool.true_xor, Bool.not_true, Bool.not_false, Bool.not_not, beq_self_eq_true, Bool.and_true, Bool.true_and, nl, nls, decide_true, decide_false, exists_eq_left, Bool.false_eq_true, Option.some_inj, Int.reduceToNat, Int.reducePow, Int.reduceMul, Int.reduceSub, Int.reduceAdd, Int.reduceNeg, Nat.reducePow, Nat.reduceLeDiff, Int.reduceLE, Int.reduceLT, Int.reduceAbs, Int.natAbs_neg, Nat.reduceLT, divW_eq, mulW_eq, Bool.or_true, Bool.true_or, cut_map, ← List.map_append, ← List.map_reverse, castN, eq_self, Int.reduceEq, deqC, deq_self, rep_map, nls_dP, wsAugIx, tx_cps, tx_len, tx_app, tx_one, tx_nil, tx_cut, tx_signs, tx_rep, lit_empty, tx_inj, wJoin, gJoin, wmCall, wmOpL, wmOpR, wmIxR, wmTup2, wsSetM, wsAppM, wForM, gSum, gAny, gAll, gLtD, gInT, gSorted, gAddT, wThaw, gMaxL, wIsE, wIsV, wCallE, wTry, DEnds.off, gInB, wDct0, wCntB, wIdxB, wTryF, gEqO, gInI, gIns, gTup, wDct1, gEqR, wFld, wsSetFld, wsAddFld, isO_rfl, wMeth, wMethF, wMethN, wmMeth, wsExprM, wsRetM, wmOne, wmCons, wMake, wmMake, wsSetMk, gToIntS, endsO, endO, startO, List.getElem?_cons_succ, wTryM, wIsO, rC, lt_lp, lt_rp, lt_lb, lt_rb, lt_cm, lt_mi, lt_0, lt_dg, ts_nt, gStr, wsSetV]
    refine ⟨d, rfl, .inr ⟨hd, by decide, fun a => ?_⟩⟩
    rw [show isSubN ("NoText" : Str) ("NoText" : Str) = true by decide]
    walk_at "s"
    refine ⟨rfl, ?_⟩
    walk_at "s"
    exact ⟨List.replicate 9 false, by simp, by rw [show decide (true ∈ List.replicate 9 false) = false by decide]; exact q⟩
--@ law_count
mutual
/-- the shape of what is read -/
def wfT : Tm → Prop
  | .pc n _ => PyData.strOk n = true
  | .parts _ => False
  | .times t _ => wfP t
  | .back a b => wfP a ∧ wfP b
def wfP : Tm → Prop
  | .pc _ _ => False
  | .parts ts => wfTs ts
  | .times _ _ => False
  | .back _ _ => False
def wfTs : List Tm → Prop
  | [] => True
  | t :: ts => wfT t ∧ wfTs ts
end
theorem wfP_parts {t : Tm} (h : wfP t) : ∃ ts, t = .parts ts ∧ wfTs ts := by
  cases t with
  | parts ts => exact ⟨ts, rfl, by simpa [wfP] using h⟩
  | pc _ _ => exact absurd h (by simp [wfP])
  | times _ _ => exact absurd h (by simp [wfP])
  | back _ _ => exact absurd h (by simp [wfP])
theorem wfTs_mem : ∀ {ts : List Tm} {t : Tm}, wfTs ts → t ∈ ts → wfT t
  | t :: ts, u, h, hm => by
    simp only [wfTs] at h
    rcases List.mem_cons.mp hm with rfl | hm
    · exact h.1
    · exact wfTs_mem h.2 hm
def SP_law_count (n : Nat) : Spec := fun ds _ R => ∃ ts : List Tm, ds = [.lst (ts.map kT)] ∧ deps ts < n ∧ wfTs ts ∧ okTs ts ∧ n ≤ 64 ∧ R (.val (.int (pcss ts)))
theorem len_law_count (n : Nat) (ds : List D) (x : XS) (R : Rt → Prop) (h : SP_law_count n ds x R) : ds.length = ["_law_parts"].length := by
  obtain ⟨ts, rfl, _⟩ := h; rfl
theorem no_law_count (ds : List D) (x : XS) (R : Rt → Prop) (h : SP_law_count 0 ds x R) : False := by
  obtain ⟨ts, _, h, _⟩ := h
  omega
def W_law_count (SPr : Spec) : WS :=
  (wSeqS (wsSet 1 (wC (.int 0)))
  (wSeqS (wFor (wSeq (wVar 0)) (wgName 2)
  (wIfS (wtOn (wOp (gEq false) (wOp gIdx (wVar 2) (wC (.int 0))) (wC (.str "piece"))))
  (wsSet 1 (wOp gAdd (wVar 1) (wC (.int 1))))
  (wIfS (wtOn (wOp (gEq false) (wOp gIdx (wVar 2) (wC (.int 0))) (wC (.str "times"))))
  (wsSet 1 (wOp gAdd (wVar 1) (wOp gMul (wB (gInt1 fun i => if i < 0 then -i else i) (wCons (wOp gIdx (wVar 2) (wC (.int 2))) wNil)) (wCall SPr (wCons (wOp gIdx (wVar 2) (wC (.int 1))) wNil)))))
  (wsSet 1 (wOp gAdd (wVar 1) (wOp gMul (wC (.int 2)) (wOp gAdd (wCall SPr (wCons (wOp gIdx (wVar 2) (wC (.int 1))) wNil)) (wCall SPr (wCons (wOp gIdx (wVar 2) (wC (.int 2))) wNil)))))))))
  (wsRet (wVar 1))))
theorem pure_law_count (n : Nat) (ds : List D) (x : XS) (R : Rt → Prop) (h : SP_law_count (n + 1) ds x R) : W_law_count (SP_law_count n) (endsOf R x) (startE 3 ds) := by
  obtain ⟨ts, rfl, hd, wf, ok, hn, q⟩ := h
  simp only [W_law_count, wVar, wOwn, wC, wOp, onBl, wtOn, wChain, trD, wtVal, wtNot, wAnd, wOr, wAndV, wOrV, wNotV, wIf, wNil, wCons, wTup, wLst, wUn, wNew, gAdd, gInt, gInt0, gMul, gCatF, gRepF, wOpF, gEq, gCmp, gInS, gIsN, isN, gIsB, gIdx, woNone, woSome, gSl, wSl, gSlF, wSlF, wB, wBF, gLen, gInt1, gInt2, gToInt, gListF, tyName, gIsT, wIsT, wCall, Rt.d, Cn.d, onNew, wCallF, wCallN, wCallNF, nlR, wgName, wgNil, wgCons, wgTup, wSeq, wSeqT, wSigns, wRng1, wRng2, wRng3, wRev, wEnum, wZip, wLc, wtYes, wsNil, wsBrk, wsCnt, wsExpr, wsRet, wsRetF, wsRetOwn, wsRetN, wIfS, wsSet, wsSetF, wsAsg, wsPar, wsAug, gApp, gExt, gPop0, gRev, wMut, wsSetIx, wFor, wsRaise, wSeqS, wFrz, wsCallM, wsPopAdd, endsOf, endM, endsM, startM, startE, wipeE, smallI, CPow, Br_true, Br_false, Br_not, rngD_eq, dC, dP, dI, ex_atI_map, atI0, atI1, atI2, kit1, kit2, kit3, kit4, kit5, kit6, kit7, kit8, kit9, kit10, kit11, kit12, kit13, kit14, kit15, kit16, kit17, kit18, kit19, kit20, kit21, kit22, kit23, kit24, kit25, kit26, kit27, kit28, kit29, kit30, kit31, kit32, kit33, kit34, kit35, sizeLine_eq, true_and, and_true, exists_eq_left', Option.some.injEq, List.map_cons, List.map_nil, List.length_cons, List.length_nil, List.length_map, List.length_append, List.cons_append, List.nil_append, List.set_cons_zero, List.set_cons_succ, List.getElem?_cons_zero, List.getElem?_cons_succ, List.getElem?_nil, Nat.reduceSub, Nat.reduceAdd, Nat.zero_add, Nat.sub_self, List.replicate_succ, List.replicate_zero, Bool.false_bne, Bool.true_bne, Bool.false_xor, Bool.true_xor, Bool.not_true, Bool.not_false, Bool.not_not, beq_self_eq_true, Bool.and_true, Bool.true_and, nl, nls, decide_true, decide_false, exists_eq_left, Bool.false_eq_true, Option.some_inj, Int.reduceToNat, Int.reducePow, Int.reduceMul, Int.reduceSub, Int.reduceAdd, Int.reduceNeg, Nat.reducePow, Nat.reduceLeDiff, Int.reduceLE, Int.reduceLT, Int.reduceAbs, Int.natAbs_neg, Nat.reduceLT, divW_eq, mulW_eq, Bool.or_true, Bool.true_or, cut_map, ← List.map_append, ← List.map_reverse, castN, eq_self, Int.reduceEq, deqC, deq_self, rep_map, nls_dP, wsAugIx, tx_cps, tx_len, tx_app, tx_one, tx_nil, tx_cut, tx_signs, tx_rep, lit_empty, tx_inj, wJoin, gJoin, wmCall, wmOpL, wmOpR, wmIxR, wmTup2, wsSetM, wsAppM, wForM, gSum, gAny, gAll, gLtD, gInT, gSorted, gAddT, wThaw, gMaxL, wIsE, wIsV, wCallE, wTry, DEnds.off, gInB, wDct0, wCntB, wIdxB, wTryF, gEqO, gInI, gIns, gTup, wDct1, gEqR, wFld, wsSetFld, wsAddFld, isO_rfl, wMeth, wMethF, wMethN, wmMeth, wsExprM, wsRetM, wmOne, wmCons, wMake, wmMake, wsSetMk, gToIntS, endsO, endO, startO, List.getElem?_cons_succ, wTryM, wIsO, rC, lt_lp, lt_rp, lt_lb, lt_rb, lt_cm, lt_mi, lt_0, lt_dg, ts_nt, gStr, wsSetV]
  refine loop_ind (S := Int × Sl) kT (fun s => [.fz (.lst (ts.map kT)), .fz (.int s.1), s.2]) (fun r s => s.1 + (pcss r : Nat) = (pcss ts : Nat) ∧ ∀ t ∈ r, t ∈ ts) ?_ ?_ _ (0, .un) ⟨by simp, fun t h => h⟩
  · rintro ⟨m, s⟩ ⟨h1, _⟩
    simp only [pcss] at h1
    walk_at "s"
    rw [show m = ((pcss ts : Nat) : Int) by omega]
    exact q
  · rintro t r ⟨m, s⟩ K ⟨h1, h2⟩ ih
    have ht := h2 t (.head _)
    have wt := wfTs_mem wf ht
    have dt := deps_mem (Nat.le_refl (deps ts)) ht
    have okt := okTs_mem ok ht
    simp only [pcss] at h1
    have go : ∀ v : Int, v = (pcs t : Nat) → K [.fz (.lst (ts.map kT)), .fz (.int (m + v)), .fz (kT t)] := fun v hv => ih (m + v, _) ⟨by simp only; omega, fun t h => h2 t (.tail _ h)⟩
    cases t with
    | pc nm k =>
      simp only [kT, pcs] at go ⊢
      walk_at "s"
      exact go 1 rfl
    | parts us => exact absurd wt (by simp [wfT])
    | times u k =>
      simp only [wfT] at wt
      obtain ⟨us, rfl, wu⟩ := wfP_parts wt
      simp only [dep] at dt
      simp only [okT] at okt
      simp only [kT, kTs_map, pcs] at go ⊢
      walk_at "s"
      refine Br.f (by decide +kernel) ?_
      walk_at "s"
      have okt2 : okT (.parts us) := okt.2
      have hm := mul_ok (t := .parts us) okt2 okt.1 (n := 64) (by simp only [dep]; omega) (by omega)
      refine ⟨us, rfl, by omega, wu, okt.2.2, by omega, ?_⟩
      walk_at "s"
      simp only [pcs] at hm
      refine ⟨by unfold CMulW at *; omega, go _ ?_⟩
      rw [abs_nat, Nat.mul_comm]
      simp
    | back a b =>
      simp only [wfT] at wt
      obtain ⟨us, rfl, wu⟩ := wfP_parts wt.1
      obtain ⟨vs, rfl, wv⟩ := wfP_parts wt.2
      simp only [dep] at dt
      simp only [okT] at okt
      simp only [kT, kTs_map, pcs] at go ⊢
      walk_at "s"
      refine Br.f (by decide +kernel) ?_
      walk_at "s"
      refine Br.f (by decide +kernel) ?_
      walk_at "s"
      have hm := two_ok (a := .parts us) (b := .parts vs) okt.1 okt.2 (n := 64) (by simp only [dep]; omega) (by simp only [dep]; omega) (by omega)
      refine ⟨us, rfl, by omega, wu, okt.1.2, by omega, ?_⟩
      walk_at "s"
      refine ⟨vs, rfl, by omega, wv, okt.2.2, by omega, ?_⟩
      walk_at "s"
      simp only [pcs] at hm
      refine ⟨hm, go _ ?_⟩
      simp
--@ Piece_pieces
def SP_pieces (n : Nat) : Spec := fun ds _ R => ∃ t, ds = [tD t] ∧ dep t ≤ n ∧ n ≤ 64 ∧ okT t ∧ R (.val (.int (pcs t)))
theorem no_pieces (ds : List D) (x : XS) (R : Rt → Prop) (h : SP_pieces 0 ds x R) : False := by
  obtain ⟨t, _, hd, _⟩ := h
  have := dep_pos t
  omega
theorem len_Piece_pieces (n : Nat) (ds : List D) (x : XS) (R : Rt → Prop) (h : SPc "Piece" (SP_pieces n) ds x R) : ds.length = ["self"].length := by
  obtain ⟨_, t, rfl, _⟩ := h; rfl
def W_Piece_pieces (SPr : Spec) : WS :=
  (wsRet (wC (.int 1)))
theorem pure_Piece_pieces (n : Nat) (ds : List D) (x : XS) (R : Rt → Prop) (h : SPc "Piece" (SP_pieces (n + 1)) ds x R) : W_Piece_pieces (SP_pieces n) (endsOf R x) (startE 1 ds) := by
  obtain ⟨⟨fs, xs, r, e⟩, t, rfl, hd, hn, ok, q⟩ := h
  obtain ⟨n, k, rfl⟩ := tD_pc e
  simp only [W_Piece_pieces, tD, wVar, wOwn, wC, wOp, onBl, wtOn, wChain, trD, wtVal, wtNot, wAnd, wOr, wAndV, wOrV, wNotV, wIf, wNil, wCons, wTup, wLst, wUn, wNew, gAdd, gInt, gInt0, gMul, gCatF, gRepF, wOpF, gEq, gCmp, gInS, gIsN, isN, gIsB, gIdx, woNone, woSome, gSl, wSl, gSlF, wSlF, wB, wBF, gLen, gInt1, gInt2, gToInt, gListF, tyName, gIsT, wIsT, wCall, Rt.d, Cn.d, onNew, wCallF, wCallN, wCallNF, nlR, wgName, wgNil, wgCons, wgTup, wSeq, wSeqT, wSigns, wRng1, wRng2, wRng3, wRev, wEnum, wZip, wLc, wtYes, wsNil, wsBrk, wsCnt, wsExpr, wsRet, wsRetF, wsRetOwn, wsRetN, wIfS, wsSet, wsSetF, wsAsg, wsPar, wsAug, gApp, gExt, gPop0, gRev, wMut, wsSetIx, wFor, wsRaise, wSeqS, wFrz, wsCallM, wsPopAdd, endsOf, endM, endsM, startM, startE, wipeE, smallI, CPow, Br_true, Br_false, Br_not, rngD_eq, dC, dP, dI, ex_atI_map, atI0, atI1, atI2, kit1, kit2, kit3, kit4, kit5, kit6, kit7, kit8, kit9, kit10, kit11, kit12, kit13, kit14, kit15, kit16, kit17, kit18, kit19, kit20, kit21, kit22, kit23, kit24, kit25, kit26, kit27, kit28, kit29, kit30, kit31, kit32, kit33, kit34, kit35, sizeLine_eq, true_and, and_true, exists_eq_left', Option.some.injEq, List.map_cons, List.map_nil, List.length_cons, List.length_nil, List.length_map, List.length_append, List.cons_append, List.nil_append, List.set_cons_zero, List.set_cons_succ, List.getElem?_cons_zero, List.getElem?_cons_succ, List.getElem?_nil, Nat.reduceSub, Nat.reduceAdd, Nat.zero_add, Nat.sub_self, List.replicate_succ, List.replicate_zero, Bool.false_bne, Bool.true_bne, Bool.false_xor, Bool.true_xor, Bool.not_true, Bool.not_false, Bool.not_not, beq_self_eq_true, Bool.and_true, Bool.true_and, nl, nls, decide_true, decide_false, exists_eq_left, Bool.false_eq_true, Option.some_inj, Int.reduceToNat, Int.reducePow, Int.reduceMul, Int.reduceSub, Int.reduceAdd, Int.reduceNeg, Nat.reducePow, Nat.reduceLeDiff, Int.reduceLE, Int.reduceLT, Int.reduceAbs, Int.natAbs_neg, Nat.reduceLT, divW_eq, mulW_eq, Bool.or_true, Bool.true_or, cut_map, ← List.map_append, ← List.map_reverse, castN, eq_self, Int.reduceEq, deqC, deq_self, rep_map, nls_dP, wsAugIx, tx_cps, tx_len, tx_app, tx_one, tx_nil, tx_cut, tx_signs, tx_rep, lit_empty, tx_inj, wJoin, gJoin, wmCall, wmOpL, wmOpR, wmIxR, wmTup2, wsSetM, wsAppM, wForM, gSum, gAny, gAll, gLtD, gInT, gSorted, gAddT, wThaw, gMaxL, wIsE, wIsV, wCallE, wTry, DEnds.off, gInB, wDct0, wCntB, wIdxB, wTryF, gEqO, gInI, gIns, gTup, wDct1, gEqR, wFld, wsSetFld, wsAddFld, isO_rfl, wMeth, wMethF, wMethN, wmMeth, wsExprM, wsRetM, wmOne, wmCons, wMake, wmMake, wsSetMk, gToIntS, endsO, endO, startO, List.getElem?_cons_succ, wTryM, wIsO, rC, lt_lp, lt_rp, lt_lb, lt_rb, lt_cm, lt_mi, lt_0, lt_dg, ts_nt, gStr, wsSetV]
  simpa [pcs] using q
--@ Parts_pieces
theorem len_Parts_pieces (n : Nat) (ds : List D) (x : XS) (R : Rt → Prop) (h : SPc "Parts" (SP_pieces n) ds x R) : ds.length = ["self"].length := by
  obtain ⟨_, t, rfl, _⟩ := h; rfl
def W_Parts_pieces (SPr : Spec) : WS :=
  (wsRet (wB gSum (wCons (wNew (wLc (wSeq (wFld "Parts" ["parts"] 0 (wVar 0))) (wgName 1) wtYes (wMethN ["Piece", "Parts", "Times", "Back"] "pieces" SPr (wVar 1) wNil) [1])) wNil)))
theorem pure_Parts_pieces (n : Nat) (ds : List D) (x : XS) (R : Rt → Prop) (h : SPc "Parts" (SP_pieces (n + 1)) ds x R) : W_Parts_pieces (SP_pieces n) (endsOf R x) (startE 2 ds) := by
  obtain ⟨⟨fs, xs, r, e⟩, t, rfl, hd, hn, ok, q⟩ := h
  obtain ⟨ts, rfl⟩ := tD_pt e
  simp only [W_Parts_pieces, tD, wVar, wOwn, wC, wOp, onBl, wtOn, wChain, trD, wtVal, wtNot, wAnd, wOr, wAndV, wOrV, wNotV, wIf, wNil, wCons, wTup, wLst, wUn, wNew, gAdd, gInt, gInt0, gMul, gCatF, gRepF, wOpF, gEq, gCmp, gInS, gIsN, isN, gIsB, gIdx, woNone, woSome, gSl, wSl, gSlF, wSlF, wB, wBF, gLen, gInt1, gInt2, gToInt, gListF, tyName, gIsT, wIsT, wCall, Rt.d, Cn.d, onNew, wCallF, wCallN, wCallNF, nlR, wgName, wgNil, wgCons, wgTup, wSeq, wSeqT, wSigns, wRng1, wRng2, wRng3, wRev, wEnum, wZip, wLc, wtYes, wsNil, wsBrk, wsCnt, wsExpr, wsRet, wsRetF, wsRetOwn, wsRetN, wIfS, wsSet, wsSetF, wsAsg, wsPar, wsAug, gApp, gExt, gPop0, gRev, wMut, wsSetIx, wFor, wsRaise, wSeqS, wFrz, wsCallM, wsPopAdd, endsOf, endM, endsM, startM, startE, wipeE, smallI, CPow, Br_true, Br_false, Br_not, rngD_eq, dC, dP, dI, ex_atI_map, atI0, atI1, atI2, kit1, kit2, kit3, kit4, kit5, kit6, kit7, kit8, kit9, kit10, kit11, kit12, kit13, kit14, kit15, kit16, kit17, kit18, kit19, kit20, kit21, kit22, kit23, kit24, kit25, kit26, kit27, kit28, kit29, kit30, kit31, kit32, kit33, kit34, kit35, sizeLine_eq, true_and, and_true, exists_eq_left', Option.some.injEq, List.map_cons, List.map_nil, List.length_cons, List.length_nil, List.length_map, List.length_append, List.cons_append, List.nil_append, List.set_cons_zero, List.set_cons_succ, List.getElem?_cons_zero, List.getElem?_cons_succ, List.getElem?_nil, Nat.reduceSub, Nat.reduceAdd, Nat.zero_add, Nat.sub_self, List.replicate_succ, List.replicate_zero, Bool.false_bne, Bool.true_bne, Bool.false_xor, Bool.true_xor, Bool.not_true, Bool.not_false, Bool.not_not, beq_self_eq_true, Bool.and_true, Bool.true_and, nl, nls, decide_true, decide_false, exists_eq_left, Bool.false_eq_true, Option.some_inj, Int.reduceToNat, Int.reducePow, Int.reduceMul, Int.reduceSub, Int.reduceAdd, Int.reduceNeg, Nat.reducePow, Nat.reduceLeDiff, Int.reduceLE, Int.reduceLT, Int.reduceAbs, Int.natAbs_neg, Nat.reduceLT, divW_eq, mulW_eq, Bool.or_true, Bool.true_or, cut_map, ← List.map_append, ← List.map_reverse, castN, eq_self, Int.reduceEq, deqC, deq_self, rep_map, nls_dP, wsAugIx, tx_cps, tx_len, tx_app, tx_one, tx_nil, tx_cut, tx_signs, tx_rep, lit_empty, tx_inj, wJoin, gJoin, wmCall, wmOpL, wmOpR, wmIxR, wmTup2, wsSetM, wsAppM, wForM, gSum, gAny, gAll, gLtD, gInT, gSorted, gAddT, wThaw, gMaxL, wIsE, wIsV, wCallE, wTry, DEnds.off, gInB, wDct0, wCntB, wIdxB, wTryF, gEqO, gInI, gIns, gTup, wDct1, gEqR, wFld, wsSetFld, wsAddFld, isO_rfl, wMeth, wMethF, wMethN, wmMeth, wsExprM, wsRetM, wmOne, wmCons, wMake, wmMake, wsSetMk, gToIntS, endsO, endO, startO, List.getElem?_cons_succ, wTryM, wIsO, rC, lt_lp, lt_rp, lt_lb, lt_rb, lt_cm, lt_mi, lt_0, lt_dg, ts_nt, gStr, wsSetV]
  simp only [dep] at hd
  simp only [okT] at ok
  rw [tDs_map]
  refine compL_map' tD (fun t => .int (pcs t)) _ _ (fun t ht Q' hq => ?_) ?_ ?_
  · walk_at "s"
    exact ⟨tD_pieces, t, rfl, deps_mem (by omega) ht, by omega, okTs_mem ok.2 ht, rfl, hq⟩
  · have := ok.1
    simp only [List.length_nil]
    walk_at "s"
    omega
  · walk_at "s"
    refine ⟨ts.map fun t => (pcs t : Int), by simp, ?_⟩
    rw [pcss_sum]
    exact q
--@ Times_pieces
theorem len_Times_pieces (n : Nat) (ds : List D) (x : XS) (R : Rt → Prop) (h : SPc "Times" (SP_pieces n) ds x R) : ds.length = ["self"].length := by
  obtain ⟨_, t, rfl, _⟩ := h; rfl
def W_Times_pieces (SPr : Spec) : WS :=
  (wsRet (wOp gMul (wMethN ["Piece", "Parts", "Times", "Back"] "pieces" SPr (wFld "Times" ["body", "number"] 0 (wVar 0)) wNil) (wB (gInt1 fun i => if i < 0 then -i else i) (wCons (wFld "Times" ["body", "number"] 1 (wVar 0)) wNil))))
theorem pure_Times_pieces (n : Nat) (ds : List D) (x : XS) (R : Rt → Prop) (h : SPc "Times" (SP_pieces (n + 1)) ds x R) : W_Times_pieces (SP_pieces n) (endsOf R x) (startE 1 ds) := by
  obtain ⟨⟨fs, xs, r, e⟩, t, rfl, hd, hn, ok, q⟩ := h
  obtain ⟨u, k, rfl⟩ := tD_ti e
  simp only [W_Times_pieces, tD, wVar, wOwn, wC, wOp, onBl, wtOn, wChain, trD, wtVal, wtNot, wAnd, wOr, wAndV, wOrV, wNotV, wIf, wNil, wCons, wTup, wLst, wUn, wNew, gAdd, gInt, gInt0, gMul, gCatF, gRepF, wOpF, gEq, gCmp, gInS, gIsN, isN, gIsB, gIdx, woNone, woSome, gSl, wSl, gSlF, wSlF, wB, wBF, gLen, gInt1, gInt2, gToInt, gListF, tyName, gIsT, wIsT, wCall, Rt.d, Cn.d, onNew, wCallF, wCallN, wCallNF, nlR, wgName, wgNil, wgCons, wgTup, wSeq, wSeqT, wSigns, wRng1, wRng2, wRng3, wRev, wEnum, wZip, wLc, wtYes, wsNil, wsBrk, wsCnt, wsExpr, wsRet, wsRetF, wsRetOwn, wsRetN, wIfS, wsSet, wsSetF, wsAsg, wsPar, wsAug, gApp, gExt, gPop0, gRev, wMut, wsSetIx, wFor, wsRaise, wSeqS, wFrz, wsCallM, wsPopAdd, endsOf, endM, endsM, startM, startE, wipeE, smallI, CPow, Br_true, Br_false, Br_not, rngD_eq, dC, dP, dI, ex_atI_map, atI0, atI1, atI2, kit1, kit2, kit3, kit4, kit5, kit6, kit7, kit8, kit9, kit10, kit11, kit12, kit13, kit14, kit15, kit16, kit17, kit18, kit19, kit20, kit21, kit22, kit23, kit24, kit25, kit26, kit27, kit28, kit29, kit30, kit31, kit32, kit33, kit34, kit35, sizeLine_eq, true_and, and_true, exists_eq_left', Option.some.injEq, List.map_cons, List.map_nil, List.length_cons, List.length_nil, List.length_map, List.length_append, List.cons_append, List.nil_append, List.set_cons_zero, List.set_cons_succ, List.getElem?_cons_zero, List.getElem?_cons_succ, List.getElem?_nil, Nat.reduceSub, Nat.reduceAdd, Nat.zero_add, Nat.sub_self, List.replicate_succ, List.replicate_zero, Bool.false_bne, Bool.true_bne, Bool.false_xor, Bool.true_xor, Bool.not_true, Bool.not_false, Bool.not_not, beq_self_eq_true, Bool.and_true, Bool.true_and, nl, nls, decide_true, decide_false, exists_eq_left, Bool.false_eq_true, Option.some_inj, Int.reduceToNat, Int.reducePow, Int.reduceMul, Int.reduceSub, Int.reduceAdd, Int.reduceNeg, Nat.reducePow, Nat.reduceLeDiff, Int.reduceLE, Int.reduceLT, Int.reduceAbs, Int.natAbs_neg, Nat.reduceLT, divW_eq, mulW_eq, Bool.or_true, Bool.true_or, cut_map, ← List.map_append, ← List.map_reverse, castN, eq_self, Int.reduceEq, deqC, deq_self, rep_map, nls_dP, wsAugIx, tx_cps, tx_len, tx_app, tx_one, tx_nil, tx_cut, tx_signs, tx_rep, lit_empty, tx_inj, wJoin, gJoin, wmCall, wmOpL, wmOpR, wmIxR, wmTup2, wsSetM, wsAppM, wForM, gSum, gAny, gAll, gLtD, gInT, gSorted, gAddT, wThaw, gMaxL, wIsE, wIsV, wCallE, wTry, DEnds.off, gInB, wDct0, wCntB, wIdxB, wTryF, gEqO, gInI, gIns, gTup, wDct1, gEqR, wFld, wsSetFld, wsAddFld, isO_rfl, wMeth, wMethF, wMethN, wmMeth, wsExprM, wsRetM, wmOne, wmCons, wMake, wmMake, wsSetMk, gToIntS, endsO, endO, startO, List.getElem?_cons_succ, wTryM, wIsO, rC, lt_lp, lt_rp, lt_lb, lt_rb, lt_cm, lt_mi, lt_0, lt_dg, ts_nt, gStr, wsSetV]
  simp only [dep] at hd
  simp only [okT] at ok
  refine ⟨tD_pieces, u, rfl, by omega, by omega, ok.2, rfl, ?_⟩
  walk_at "s"
  refine ⟨mul_ok ok.2 ok.1 (n := 64) (by omega) (by omega), ?_⟩
  rw [abs_nat]
  simpa [pcs] using q
--@ Back_pieces
theorem len_Back_pieces (n : Nat) (ds : List D) (x : XS) (R : Rt → Prop) (h : SPc "Back" (SP_pieces n) ds x R) : ds.length = ["self"].length := by
  obtain ⟨_, t, rfl, _⟩ := h; rfl
def W_Back_pieces (SPr : Spec) : WS :=
  (wsRet (wOp gMul (wC (.int 2)) (wOp gAdd (wMethN ["Piece", "Parts", "Times", "Back"] "pieces" SPr (wFld "Back" ["one", "other"] 0 (wVar 0)) wNil) (wMethN ["Piece", "Parts", "Times", "Back"] "pieces" SPr (wFld "Back" ["one", "other"] 1 (wVar 0)) wNil))))
theorem pure_Back_pieces (n : Nat) (ds : List D) (x : XS) (R : Rt → Prop) (h : SPc "Back" (SP_pieces (n + 1)) ds x R) : W_Back_pieces (SP_pieces n) (endsOf R x) (startE 1 ds) := by
  obtain ⟨⟨fs, xs, r, e⟩, t, rfl, hd, hn, ok, q⟩ := h
  obtain ⟨a, b, rfl⟩ := tD_bk e
  simp only [W_Back_pieces, tD, wVar, wOwn, wC, wOp, onBl, wtOn, wChain, trD, wtVal, wtNot, wAnd, wOr, wAndV, wOrV, wNotV, wIf, wNil, wCons, wTup, wLst, wUn, wNew, gAdd, gInt, gInt0, gMul, gCatF, gRepF, wOpF, gEq, gCmp, gInS, gIsN, isN, gIsB, gIdx, woNone, woSome, gSl, wSl, gSlF, wSlF, wB, wBF, gLen, gInt1, gInt2, gToInt, gListF, tyName, gIsT, wIsT, wCall, Rt.d, Cn.d, onNew, wCallF, wCallN, wCallNF, nlR, wgName, wgNil, wgCons, wgTup, wSeq, wSeqT, wSigns, wRng1, wRng2, wRng3, wRev, wEnum, wZip, wLc, wtYes, wsNil, wsBrk, wsCnt, wsExpr, wsRet, wsRetF, wsRetOwn, wsRetN, wIfS, wsSet, wsSetF, wsAsg, wsPar, wsAug, gApp, gExt, gPop0, gRev, wMut, wsSetIx, wFor, wsRaise, wSeqS, wFrz, wsCallM, wsPopAdd, endsOf, endM, endsM, startM, startE, wipeE, smallI, CPow, Br_true, Br_false, Br_not, rngD_eq, dC, dP, dI, ex_atI_map, atI0, atI1, atI2, kit1, kit2, kit3, kit4, kit5, kit6, kit7, kit8, kit9, kit10, kit11, kit12, kit13, kit14, kit15, kit16, kit17, kit18, kit19, kit20, kit21, kit22, kit23, kit24, kit25, kit26, kit27, kit28, kit29, kit30, kit31, kit32, kit33, kit34, kit35, sizeLine_eq, true_and, and_true, exists_eq_left', Option.some.injEq, List.map_cons, List.map_nil, List.length_cons, List.length_nil, List.length_map, List.length_append, List.cons_append, List.nil_append, List.set_cons_zero, List.set_cons_succ, List.getElem?_cons_zero, List.getElem?_cons_succ, List.getElem?_nil, Nat.reduceSub, Nat.reduceAdd, Nat.zero_add, Nat.sub_self, List.replicate_succ, List.replicate_zero, Bool.false_bne, Bool.true_bne, Bool.false_xor, Bool.true_xor, Bool.not_true, Bool.not_false, Bool.not_not, beq_self_eq_true, Bool.and_true, Bool.true_and, nl, nls, decide_true, decide_false, exists_eq_left, Bool.false_eq_true, Option.some_inj, Int.reduceToNat, Int.reducePow, Int.reduceMul, Int.reduceSub, Int.reduceAdd, Int.reduceNeg, Nat.reducePow, Nat.reduceLeDiff, Int.reduceLE, Int.reduceLT, Int.reduceAbs, Int.natAbs_neg, Nat.reduceLT, divW_eq, mulW_eq, Bool.or_true, Bool.true_or, cut_map, ← List.map_append, ← List.map_reverse, castN, eq_self, Int.reduceEq, deqC, deq_self, rep_map, nls_dP, wsAugIx, tx_cps, tx_len, tx_app, tx_one, tx_nil, tx_cut, tx_signs, tx_rep, lit_empty, tx_inj, wJoin, gJoin, wmCall, wmOpL, wmOpR, wmIxR, wmTup2, wsSetM, wsAppM, wForM, gSum, gAny, gAll, gLtD, gInT, gSorted, gAddT, wThaw, gMaxL, wIsE, wIsV, wCallE, wTry, DEnds.off, gInB, wDct0, wCntB, wIdxB, wTryF, gEqO, gInI, gIns, gTup, wDct1, gEqR, wFld, wsSetFld, wsAddFld, isO_rfl, wMeth, wMethF, wMethN, wmMeth, wsExprM, wsRetM, wmOne, wmCons, wMake, wmMake, wsSetMk, gToIntS, endsO, endO, startO, List.getElem?_cons_succ, wTryM, wIsO, rC, lt_lp, lt_rp, lt_lb, lt_rb, lt_cm, lt_mi, lt_0, lt_dg, ts_nt, gStr, wsSetV]
  simp only [dep] at hd
  simp only [okT] at ok
  refine ⟨tD_pieces, a, rfl, by omega, by omega, ok.1, rfl, ?_⟩
  walk_at "s"
  refine ⟨tD_pieces, b, rfl, by omega, by omega, ok.2, rfl, ?_⟩
  walk_at "s"
  refine ⟨two_ok ok.1 ok.2 (n := 64) (by omega) (by omega) (by omega), ?_⟩
  simpa [pcs] using q
--@ law_right
def SP_law_right : Spec := fun ds _ R => ∃ c : List Pc, ds = [dC c, dC c] ∧ c.length < 16777216 ∧ OkC c ∧ R (.val (.bl true))
theorem len_law_right (ds : List D) (x : XS) (R : Rt → Prop) (h : SP_law_right ds x R) : ds.length = ["_law_found", "_law_due"].length := by
  obtain ⟨c, rfl, _⟩ := h; rfl
def W_law_right : WS :=
  (wSeqS (wIfS (wOr (wtNot (wtVal (wIsT "list" (wVar 0)))) (wtOn (wOp (gEq true) (wB gLen (wCons (wVar 0) wNil)) (wB gLen (wCons (wVar 1) wNil)))))
  (wsRet (wC (.bl false)))
  wsNil)
  (wSeqS (wFor (wZip (wVar 0) (wVar 1)) (wgTup 2 (wgCons (wgName 2) (wgCons (wgName 3) wgNil)))
  (wSeqS (wIfS (wOr (wtNot (wtVal (wIsT "tuple" (wVar 2)))) (wOr (wtOn (wOp (gEq true) (wB gLen (wCons (wVar 2) wNil)) (wC (.int 2)))) (wtNot (wtVal (wIsT "str" (wOp gIdx (wVar 2) (wC (.int 0))))))))
  (wsRet (wC (.bl false)))
  wsNil)
  (wIfS (wOr (wtNot (wtVal (wIsT "int" (wOp gIdx (wVar 2) (wC (.int 1)))))) (wOr (wtVal (wIsT "bool" (wOp gIdx (wVar 2) (wC (.int 1))))) (wtOn (wOp (gEq true) (wVar 2) (wVar 3)))))
  (wsRet (wC (.bl false)))
  wsNil)))
  (wsRet (wC (.bl true)))))
theorem pure_law_right (ds : List D) (x : XS) (R : Rt → Prop) (h : SP_law_right ds x R) : W_law_right (endsOf R x) (startE 4 ds) := by
  obtain ⟨c, rfl, hl, ok, q⟩ := h
  simp only [W_law_right, wVar, wOwn, wC, wOp, onBl, wtOn, wChain, trD, wtVal, wtNot, wAnd, wOr, wAndV, wOrV, wNotV, wIf, wNil, wCons, wTup, wLst, wUn, wNew, gAdd, gInt, gInt0, gMul, gCatF, gRepF, wOpF, gEq, gCmp, gInS, gIsN, isN, gIsB, gIdx, woNone, woSome, gSl, wSl, gSlF, wSlF, wB, wBF, gLen, gInt1, gInt2, gToInt, gListF, tyName, gIsT, wIsT, wCall, Rt.d, Cn.d, onNew, wCallF, wCallN, wCallNF, nlR, wgName, wgNil, wgCons, wgTup, wSeq, wSeqT, wSigns, wRng1, wRng2, wRng3, wRev, wEnum, wZip, wLc, wtYes, wsNil, wsBrk, wsCnt, wsExpr, wsRet, wsRetF, wsRetOwn, wsRetN, wIfS, wsSet, wsSetF, wsAsg, wsPar, wsAug, gApp, gExt, gPop0, gRev, wMut, wsSetIx, wFor, wsRaise, wSeqS, wFrz, wsCallM, wsPopAdd, endsOf, endM, endsM, startM, startE, wipeE, smallI, CPow, Br_true, Br_false, Br_not, rngD_eq, dC, dP, dI, ex_atI_map, atI0, atI1, atI2, kit1, kit2, kit3, kit4, kit5, kit6, kit7, kit8, kit9, kit10, kit11, kit12, kit13, kit14, kit15, kit16, kit17, kit18, kit19, kit20, kit21, kit22, kit23, kit24, kit25, kit26, kit27, kit28, kit29, kit30, kit31, kit32, kit33, kit34, kit35, sizeLine_eq, true_and, and_true, exists_eq_left', Option.some.injEq, List.map_cons, List.map_nil, List.length_cons, List.length_nil, List.length_map, List.length_append, List.cons_append, List.nil_append, List.set_cons_zero, List.set_cons_succ, List.getElem?_cons_zero, List.getElem?_cons_succ, List.getElem?_nil, Nat.reduceSub, Nat.reduceAdd, Nat.zero_add, Nat.sub_self, List.replicate_succ, List.replicate_zero, Bool.false_bne, Bool.true_bne, Bool.false_xor, Bool.true_xor, Bool.not_true, Bool.not_false, Bool.not_not, beq_self_eq_true, Bool.and_true, Bool.true_and, nl, nls, decide_true, decide_false, exists_eq_left, Bool.false_eq_true, Option.some_inj, Int.reduceToNat, Int.reducePow, Int.reduceMul, Int.reduceSub, Int.reduceAdd, Int.reduceNeg, Nat.reducePow, Nat.reduceLeDiff, Int.reduceLE, Int.reduceLT, Int.reduceAbs, Int.natAbs_neg, Nat.reduceLT, divW_eq, mulW_eq, Bool.or_true, Bool.true_or, cut_map, ← List.map_append, ← List.map_reverse, castN, eq_self, Int.reduceEq, deqC, deq_self, rep_map, nls_dP, wsAugIx, tx_cps, tx_len, tx_app, tx_one, tx_nil, tx_cut, tx_signs, tx_rep, lit_empty, tx_inj, wJoin, gJoin, wmCall, wmOpL, wmOpR, wmIxR, wmTup2, wsSetM, wsAppM, wForM, gSum, gAny, gAll, gLtD, gInT, gSorted, gAddT, wThaw, gMaxL, wIsE, wIsV, wCallE, wTry, DEnds.off, gInB, wDct0, wCntB, wIdxB, wTryF, gEqO, gInI, gIns, gTup, wDct1, gEqR, wFld, wsSetFld, wsAddFld, isO_rfl, wMeth, wMethF, wMethN, wmMeth, wsExprM, wsRetM, wmOne, wmCons, wMake, wmMake, wsSetMk, gToIntS, endsO, endO, startO, List.getElem?_cons_succ, wTryM, wIsO, rC, lt_lp, lt_rp, lt_lb, lt_rb, lt_cm, lt_mi, lt_0, lt_dg, ts_nt, gStr, wsSetV]
  have ep : pairs (c.map dP) (c.map dP) = c.map fun p => D.tup [dP p, dP p] := by
    clear hl ok
    induction c with
    | nil => rfl
    | cons p c ih =>
      show D.tup [dP p, dP p] :: pairs (c.map dP) (c.map dP) = _
      rw [ih]
      rfl
  rw [ep]
  refine loop_ind (S := Sl × Sl) (fun p => D.tup [dP p, dP p]) (fun s => [.fz (.lst (c.map dP)), .fz (.lst (c.map dP)), s.1, s.2]) (fun r _ => OkC r) ?_ ?_ _ (.un, .un) ok
  · intro s _
    walk_at "s"
    exact q
  · intro p r s L hp ih
    have np : nb 20 (dP p) = true := nb_dP (n := 18) (hp p (by simp))
    unfold dP at np
    walk_at "s"
    exact ⟨⟨np, np⟩, ih (_, _) fun z hz => hp z (by simp [hz])⟩
--@ law_contrary
def SP_law_contrary : Spec := fun ds _ R => ∃ c : List Pc, ds = [dC c] ∧ c.length ≤ 16777216 ∧ R (.new (.lst ((con c).map dP)))
theorem len_law_contrary (ds : List D) (x : XS) (R : Rt → Prop) (h : SP_law_contrary ds x R) : ds.length = ["_law_cord_here"].length := by
  obtain ⟨c, rfl, _⟩ := h; rfl
def W_law_contrary : WS :=
  (wsRetF (wLc (wRev (wVar 0)) (wgTup 2 (wgCons (wgName 1) (wgCons (wgName 2) wgNil))) wtYes (wTup (wCons (wVar 1) (wCons (wUn (fun i => -i) (wVar 2)) wNil))) [1, 2]))
theorem pure_law_contrary (ds : List D) (x : XS) (R : Rt → Prop) (h : SP_law_contrary ds x R) : W_law_contrary (endsOf R x) (startE 3 ds) := by
  obtain ⟨c, rfl, hl, q⟩ := h
  simp only [W_law_contrary, wVar, wOwn, wC, wOp, onBl, wtOn, wChain, trD, wtVal, wtNot, wAnd, wOr, wAndV, wOrV, wNotV, wIf, wNil, wCons, wTup, wLst, wUn, wNew, gAdd, gInt, gInt0, gMul, gCatF, gRepF, wOpF, gEq, gCmp, gInS, gIsN, isN, gIsB, gIdx, woNone, woSome, gSl, wSl, gSlF, wSlF, wB, wBF, gLen, gInt1, gInt2, gToInt, gListF, tyName, gIsT, wIsT, wCall, Rt.d, Cn.d, onNew, wCallF, wCallN, wCallNF, nlR, wgName, wgNil, wgCons, wgTup, wSeq, wSeqT, wSigns, wRng1, wRng2, wRng3, wRev, wEnum, wZip, wLc, wtYes, wsNil, wsBrk, wsCnt, wsExpr, wsRet, wsRetF, wsRetOwn, wsRetN, wIfS, wsSet, wsSetF, wsAsg, wsPar, wsAug, gApp, gExt, gPop0, gRev, wMut, wsSetIx, wFor, wsRaise, wSeqS, wFrz, wsCallM, wsPopAdd, endsOf, endM, endsM, startM, startE, wipeE, smallI, CPow, Br_true, Br_false, Br_not, rngD_eq, dC, dP, dI, ex_atI_map, atI0, atI1, atI2, kit1, kit2, kit3, kit4, kit5, kit6, kit7, kit8, kit9, kit10, kit11, kit12, kit13, kit14, kit15, kit16, kit17, kit18, kit19, kit20, kit21, kit22, kit23, kit24, kit25, kit26, kit27, kit28, kit29, kit30, kit31, kit32, kit33, kit34, kit35, sizeLine_eq, true_and, and_true, exists_eq_left', Option.some.injEq, List.map_cons, List.map_nil, List.length_cons, List.length_nil, List.length_map, List.length_append, List.cons_append, List.nil_append, List.set_cons_zero, List.set_cons_succ, List.getElem?_cons_zero, List.getElem?_cons_succ, List.getElem?_nil, Nat.reduceSub, Nat.reduceAdd, Nat.zero_add, Nat.sub_self, List.replicate_succ, List.replicate_zero, Bool.false_bne, Bool.true_bne, Bool.false_xor, Bool.true_xor, Bool.not_true, Bool.not_false, Bool.not_not, beq_self_eq_true, Bool.and_true, Bool.true_and, nl, nls, decide_true, decide_false, exists_eq_left, Bool.false_eq_true, Option.some_inj, Int.reduceToNat, Int.reducePow, Int.reduceMul, Int.reduceSub, Int.reduceAdd, Int.reduceNeg, Nat.reducePow, Nat.reduceLeDiff, Int.reduceLE, Int.reduceLT, Int.reduceAbs, Int.natAbs_neg, Nat.reduceLT, divW_eq, mulW_eq, Bool.or_true, Bool.true_or, cut_map, ← List.map_append, ← List.map_reverse, castN, eq_self, Int.reduceEq, deqC, deq_self, rep_map, nls_dP, wsAugIx, tx_cps, tx_len, tx_app, tx_one, tx_nil, tx_cut, tx_signs, tx_rep, lit_empty, tx_inj, wJoin, gJoin, wmCall, wmOpL, wmOpR, wmIxR, wmTup2, wsSetM, wsAppM, wForM, gSum, gAny, gAll, gLtD, gInT, gSorted, gAddT, wThaw, gMaxL, wIsE, wIsV, wCallE, wTry, DEnds.off, gInB, wDct0, wCntB, wIdxB, wTryF, gEqO, gInI, gIns, gTup, wDct1, gEqR, wFld, wsSetFld, wsAddFld, isO_rfl, wMeth, wMethF, wMethN, wmMeth, wsExprM, wsRetM, wmOne, wmCons, wMake, wmMake, wsSetMk, gToIntS, endsO, endO, startO, List.getElem?_cons_succ, wTryM, wIsO, rC, lt_lp, lt_rp, lt_lb, lt_rb, lt_cm, lt_mi, lt_0, lt_dg, ts_nt, gStr, wsSetV]
  refine compL_map dP (fun p => dP (p.1, -p.2)) (fun p Q' hq => ?_) _ _ ?_ ?_
  · simp only [wVar, wOwn, wC, wOp, onBl, wtOn, wChain, trD, wtVal, wtNot, wAnd, wOr, wAndV, wOrV, wNotV, wIf, wNil, wCons, wTup, wLst, wUn, wNew, gAdd, gInt, gInt0, gMul, gCatF, gRepF, wOpF, gEq, gCmp, gInS, gIsN, isN, gIsB, gIdx, woNone, woSome, gSl, wSl, gSlF, wSlF, wB, wBF, gLen, gInt1, gInt2, gToInt, gListF, tyName, gIsT, wIsT, wCall, Rt.d, Cn.d, onNew, wCallF, wCallN, wCallNF, nlR, wgName, wgNil, wgCons, wgTup, wSeq, wSeqT, wSigns, wRng1, wRng2, wRng3, wRev, wEnum, wZip, wLc, wtYes, wsNil, wsBrk, wsCnt, wsExpr, wsRet, wsRetF, wsRetOwn, wsRetN, wIfS, wsSet, wsSetF, wsAsg, wsPar, wsAug, gApp, gExt, gPop0, gRev, wMut, wsSetIx, wFor, wsRaise, wSeqS, wFrz, wsCallM, wsPopAdd, endsOf, endM, endsM, startM, startE, wipeE, smallI, CPow, Br_true, Br_false, Br_not, rngD_eq, dC, dP, dI, ex_atI_map, atI0, atI1, atI2, kit1, kit2, kit3, kit4, kit5, kit6, kit7, kit8, kit9, kit10, kit11, kit12, kit13, kit14, kit15, kit16, kit17, kit18, kit19, kit20, kit21, kit22, kit23, kit24, kit25, kit26, kit27, kit28, kit29, kit30, kit31, kit32, kit33, kit34, kit35, sizeLine_eq, true_and, and_true, exists_eq_left', Option.some.injEq, List.map_cons, List.map_nil, List.length_cons, List.length_nil, List.length_map, List.length_append, List.cons_append, List.nil_append, List.set_cons_zero, List.set_cons_succ, List.getElem?_cons_zero, List.getElem?_cons_succ, List.getElem?_nil, Nat.reduceSub, Nat.reduceAdd, Nat.zero_add, Nat.sub_self, List.replicate_succ, List.replicate_zero, Bool.false_bne, Bool.true_bne, Bool.false_xor, Bool.true_xor, Bool.not_true, Bool.not_false, Bool.not_not, beq_self_eq_true, Bool.and_true, Bool.true_and, nl, nls, decide_true, decide_false, exists_eq_left, Bool.false_eq_true, Option.some_inj, Int.reduceToNat, Int.reducePow, Int.reduceMul, Int.reduceSub, Int.reduceAdd, Int.reduceNeg, Nat.reducePow, Nat.reduceLeDiff, Int.reduceLE, Int.reduceLT, Int.reduceAbs, Int.natAbs_neg, Nat.reduceLT, divW_eq, mulW_eq, Bool.or_true, Bool.true_or, cut_map, ← List.map_append, ← List.map_reverse, castN, eq_self, Int.reduceEq, deqC, deq_self, rep_map, nls_dP, wsAugIx, tx_cps, tx_len, tx_app, tx_one, tx_nil, tx_cut, tx_signs, tx_rep, lit_empty, tx_inj, wJoin, gJoin, wmCall, wmOpL, wmOpR, wmIxR, wmTup2, wsSetM, wsAppM, wForM, gSum, gAny, gAll, gLtD, gInT, gSorted, gAddT, wThaw, gMaxL, wIsE, wIsV, wCallE, wTry, DEnds.off, gInB, wDct0, wCntB, wIdxB, wTryF, gEqO, gInI, gIns, gTup, wDct1, gEqR, wFld, wsSetFld, wsAddFld, isO_rfl, wMeth, wMethF, wMethN, wmMeth, wsExprM, wsRetM, wmOne, wmCons, wMake, wmMake, wsSetMk, gToIntS, endsO, endO, startO, List.getElem?_cons_succ, wTryM, wIsO, rC, lt_lp, lt_rp, lt_lb, lt_rb, lt_cm, lt_mi, lt_0, lt_dg, ts_nt, gStr, wsSetV]
    simpa [dP] using hq
  · simp only [wVar, wOwn, wC, wOp, onBl, wtOn, wChain, trD, wtVal, wtNot, wAnd, wOr, wAndV, wOrV, wNotV, wIf, wNil, wCons, wTup, wLst, wUn, wNew, gAdd, gInt, gInt0, gMul, gCatF, gRepF, wOpF, gEq, gCmp, gInS, gIsN, isN, gIsB, gIdx, woNone, woSome, gSl, wSl, gSlF, wSlF, wB, wBF, gLen, gInt1, gInt2, gToInt, gListF, tyName, gIsT, wIsT, wCall, Rt.d, Cn.d, onNew, wCallF, wCallN, wCallNF, nlR, wgName, wgNil, wgCons, wgTup, wSeq, wSeqT, wSigns, wRng1, wRng2, wRng3, wRev, wEnum, wZip, wLc, wtYes, wsNil, wsBrk, wsCnt, wsExpr, wsRet, wsRetF, wsRetOwn, wsRetN, wIfS, wsSet, wsSetF, wsAsg, wsPar, wsAug, gApp, gExt, gPop0, gRev, wMut, wsSetIx, wFor, wsRaise, wSeqS, wFrz, wsCallM, wsPopAdd, endsOf, endM, endsM, startM, startE, wipeE, smallI, CPow, Br_true, Br_false, Br_not, rngD_eq, dC, dP, dI, ex_atI_map, atI0, atI1, atI2, kit1, kit2, kit3, kit4, kit5, kit6, kit7, kit8, kit9, kit10, kit11, kit12, kit13, kit14, kit15, kit16, kit17, kit18, kit19, kit20, kit21, kit22, kit23, kit24, kit25, kit26, kit27, kit28, kit29, kit30, kit31, kit32, kit33, kit34, kit35, sizeLine_eq, true_and, and_true, exists_eq_left', Option.some.injEq, List.map_cons, List.map_nil, List.length_cons, List.length_nil, List.length_map, List.length_append, List.cons_append, List.nil_append, List.set_cons_zero, List.set_cons_succ, List.getElem?_cons_zero, List.getElem?_cons_succ, List.getElem?_nil, Nat.reduceSub, Nat.reduceAdd, Nat.zero_add, Nat.sub_self, List.replicate_succ, List.replicate_zero, Bool.false_bne, Bool.true_bne, Bool.false_xor, Bool.true_xor, Bool.not_true, Bool.not_false, Bool.not_not, beq_self_eq_true, Bool.and_true, Bool.true_and, nl, nls, decide_true, decide_false, exists_eq_left, Bool.false_eq_true, Option.some_inj, Int.reduceToNat, Int.reducePow, Int.reduceMul, Int.reduceSub, Int.reduceAdd, Int.reduceNeg, Nat.reducePow, Nat.reduceLeDiff, Int.reduceLE, Int.reduceLT, Int.reduceAbs, Int.natAbs_neg, Nat.reduceLT, divW_eq, mulW_eq, Bool.or_true, Bool.true_or, cut_map, ← List.map_append, ← List.map_reverse, castN, eq_self, Int.reduceEq, deqC, deq_self, rep_map, nls_dP, wsAugIx, tx_cps, tx_len, tx_app, tx_one, tx_nil, tx_cut, tx_signs, tx_rep, lit_empty, tx_inj, wJoin, gJoin, wmCall, wmOpL, wmOpR, wmIxR, wmTup2, wsSetM, wsAppM, wForM, gSum, gAny, gAll, gLtD, gInT, gSorted, gAddT, wThaw, gMaxL, wIsE, wIsV, wCallE, wTry, DEnds.off, gInB, wDct0, wCntB, wIdxB, wTryF, gEqO, gInI, gIns, gTup, wDct1, gEqR, wFld, wsSetFld, wsAddFld, isO_rfl, wMeth, wMethF, wMethN, wmMeth, wsExprM, wsRetM, wmOne, wmCons, wMake, wmMake, wsSetMk, gToIntS, endsO, endO, startO, List.getElem?_cons_succ, wTryM, wIsO, rC, lt_lp, lt_rp, lt_lb, lt_rb, lt_cm, lt_mi, lt_0, lt_dg, ts_nt, gStr, wsSetV]; simpa using hl
  · simpa [con, Function.comp_def] using q
--@ law_laid
def SP_law_laid (n : Nat) : Spec := fun ds _ R => ∃ ts : List Tm, ds = [.lst (ts.map kT)] ∧ deps ts < n ∧ wfTs ts ∧ n ≤ 64 ∧ pcss ts ≤ 300 ∧ R (.new (.lst ((lys ts).map dP)))
theorem len_law_laid (n : Nat) (ds : List D) (x : XS) (R : Rt → Prop) (h : SP_law_laid n ds x R) : ds.length = ["_law_parts"].length := by
  obtain ⟨ts, rfl, _⟩ := h; rfl
theorem no_law_laid (ds : List D) (x : XS) (R : Rt → Prop) (h : SP_law_laid 0 ds x R) : False := by
  obtain ⟨ts, _, h, _⟩ := h
  omega
theorem min300 {c : List Pc} {k : Int} (h : c.length * k.natAbs ≤ 300) (hk : 0 < k) : c = [] ∨ k ≤ 300 := by
  by_cases hc : c = []
  · exact .inl hc
  · have h1 : 1 ≤ c.length := List.length_pos_iff.mpr hc
    have h2 : k.natAbs ≤ 300 := Nat.le_trans (Nat.le_mul_of_pos_left _ h1) h
    exact .inr (by omega)
theorem rep_nil {α : Type} (n : Nat) : (List.replicate n ([] : List α)).flatten = [] := by
  induction n with
  | zero => rfl
  | succ n ih => rw [List.replicate_succ, List.flatten_cons, ih]; rfl
theorem times_min {c : List Pc} {k : Int} (h : c.length * k.natAbs ≤ 300) (hk : 0 < k) : (List.replicate (if 300 < k then (300 : Int) else k).toNat c).flatten = timesC c k := by
  unfold timesC
  rw [if_neg (show ¬ k < 0 by omega)]
  rcases min300 h hk with rfl | h2
  · rw [rep_nil, rep_nil]
  · rw [if_neg (by omega), show k.toNat = k.natAbs by omega]
theorem times_min' {c : List Pc} {k : Int} (h : c.length * k.natAbs ≤ 300) (hk : k < 0) : (List.replicate (if 300 < -k then (300 : Int) else -k).toNat (con c)).flatten = timesC c k := by
  have h' : c.length * (-k).natAbs ≤ 300 := by rw [Int.natAbs_neg]; exact h
  unfold timesC
  rw [if_pos hk]
  rcases min300 h' (by omega) with rfl | h2
  · rw [show con [] = [] from rfl, rep_nil, rep_nil]
  · rw [if_neg (by omega), show (-k).toNat = k.natAbs by omega]
theorem len_min {l : Nat} {k : Int} (h : l * k.natAbs ≤ 300) (hk : 0 < k) : l * (if 300 < k then (300 : Int) else k).toNat ≤ 300 := by
  refine Nat.le_trans (Nat.mul_le_mul_left l ?_) h
  split <;> omega
theorem min_rg {k : Int} (hk : 0 < k) : -9223372036854775808 ≤ (if 300 < k then (300 : Int) else k) ∧ (if 300 < k then (300 : Int) else k) < 9223372036854775808 := by
  split <;> omega
def W_law_laid (SPr : Spec) : WS :=
  (wSeqS (wsSetF 1 (wLst wNil))
  (wSeqS (wFor (wSeq (wVar 0)) (wgName 2)
  (wIfS (wtOn (wOp (gEq false) (wOp gIdx (wVar 2) (wC (.int 0))) (wC (.str "piece"))))
  (wMut 1 gApp (wCons (wTup (wCons (wOp gIdx (wVar 2) (wC (.int 1))) (wCons (wOp gIdx (wVar 2) (wC (.int 2))) wNil))) wNil))
  (wIfS (wtOn (wOp (gEq false) (wOp gIdx (wVar 2) (wC (.int 0))) (wC (.str "back"))))
  (wSeqS (wsSet 3 (wCall SPr (wCons (wOp gIdx (wVar 2) (wC (.int 1))) wNil)))
  (wSeqS (wsSet 4 (wCall SPr (wCons (wOp gIdx (wVar 2) (wC (.int 2))) wNil)))
  (wSeqS (wsSetF 1 (wOpF gCatF (wOp gAdd (wOwn 1) (wVar 3)) (wVar 4)))
  (wsSetF 1 (wOpF gCatF (wOp gAdd (wOwn 1) (wCall SP_law_contrary (wCons (wVar 3) wNil))) (wCall SP_law_contrary (wCons (wVar 4) wNil)))))))
  (wIfS (wtOn (wOp (gCmp fun i j => decide (j < i)) (wOp gIdx (wVar 2) (wC (.int 2))) (wC (.int 0))))
  (wsSetF 1 (wOpF gCatF (wOwn 1) (wOp gMul (wCall SPr (wCons (wOp gIdx (wVar 2) (wC (.int 1))) wNil)) (wB (gInt2 fun i j => if j < i then j else i) (wCons (wOp gIdx (wVar 2) (wC (.int 2))) (wCons (wC (.int 300)) wNil))))))
  (wIfS (wtOn (wOp (gCmp fun i j => decide (i < j)) (wOp gIdx (wVar 2) (wC (.int 2))) (wC (.int 0))))
  (wSeqS (wsSet 5 (wCall SP_law_contrary (wCons (wCall SPr (wCons (wOp gIdx (wVar 2) (wC (.int 1))) wNil)) wNil)))
  (wsSetF 1 (wOpF gCatF (wOwn 1) (wOp gMul (wVar 5) (wB (gInt2 fun i j => if j < i then j else i) (wCons (wUn (fun i => -i) (wOp gIdx (wVar 2) (wC (.int 2)))) (wCons (wC (.int 300)) wNil)))))))
  wsNil)))))
  (wsRetOwn 1)))
theorem pure_law_laid (n : Nat) (ds : List D) (x : XS) (R : Rt → Prop) (h : SP_law_laid (n + 1) ds x R) : W_law_laid (SP_law_laid n) (endsOf R x) (startE 6 ds) := by
  obtain ⟨ts, rfl, hd, wf, hn, h300, q⟩ := h
  simp only [W_law_laid, wVar, wOwn, wC, wOp, onBl, wtOn, wChain, trD, wtVal, wtNot, wAnd, wOr, wAndV, wOrV, wNotV, wIf, wNil, wCons, wTup, wLst, wUn, wNew, gAdd, gInt, gInt0, gMul, gCatF, gRepF, wOpF, gEq, gCmp, gInS, gIsN, isN, gIsB, gIdx, woNone, woSome, gSl, wSl, gSlF, wSlF, wB, wBF, gLen, gInt1, gInt2, gToInt, gListF, tyName, gIsT, wIsT, wCall, Rt.d, Cn.d, onNew, wCallF, wCallN, wCallNF, nlR, wgName, wgNil, wgCons, wgTup, wSeq, wSeqT, wSigns, wRng1, wRng2, wRng3, wRev, wEnum, wZip, wLc, wtYes, wsNil, wsBrk, wsCnt, wsExpr, wsRet, wsRetF, wsRetOwn, wsRetN, wIfS, wsSet, wsSetF, wsAsg, wsPar, wsAug, gApp, gExt, gPop0, gRev, wMut, wsSetIx, wFor, wsRaise, wSeqS, wFrz, wsCallM, wsPopAdd, endsOf, endM, endsM, startM, startE, wipeE, smallI, CPow, Br_true, Br_false, Br_not, rngD_eq, dC, dP, dI, ex_atI_map, atI0, atI1, atI2, kit1, kit2, kit3, kit4, kit5, kit6, kit7, kit8, kit9, kit10, kit11, kit12, kit13, kit14, kit15, kit16, kit17, kit18, kit19, kit20, kit21, kit22, kit23, kit24, kit25, kit26, kit27, kit28, kit29, kit30, kit31, kit32, kit33, kit34, kit35, sizeLine_eq, true_and, and_true, exists_eq_left', Option.some.injEq, List.map_cons, List.map_nil, List.length_cons, List.length_nil, List.length_map, List.length_append, List.cons_append, List.nil_append, List.set_cons_zero, List.set_cons_succ, List.getElem?_cons_zero, List.getElem?_cons_succ, List.getElem?_nil, Nat.reduceSub, Nat.reduceAdd, Nat.zero_add, Nat.sub_self, List.replicate_succ, List.replicate_zero, Bool.false_bne, Bool.true_bne, Bool.false_xor, Bool.true_xor, Bool.not_true, Bool.not_false, Bool.not_not, beq_self_eq_true, Bool.and_true, Bool.true_and, nl, nls, decide_true, decide_false, exists_eq_left, Bool.false_eq_true, Option.some_inj, Int.reduceToNat, Int.reducePow, Int.reduceMul, Int.reduceSub, Int.reduceAdd, Int.reduceNeg, Nat.reducePow, Nat.reduceLeDiff, Int.reduceLE, Int.reduceLT, Int.reduceAbs, Int.natAbs_neg, Nat.reduceLT, divW_eq, mulW_eq, Bool.or_true, Bool.true_or, cut_map, ← List.map_append, ← List.map_reverse, castN, eq_self, Int.reduceEq, deqC, deq_self, rep_map, nls_dP, wsAugIx, tx_cps, tx_len, tx_app, tx_one, tx_nil, tx_cut, tx_signs, tx_rep, lit_empty, tx_inj, wJoin, gJoin, wmCall, wmOpL, wmOpR, wmIxR, wmTup2, wsSetM, wsAppM, wForM, gSum, gAny, gAll, gLtD, gInT, gSorted, gAddT, wThaw, gMaxL, wIsE, wIsV, wCallE, wTry, DEnds.off, gInB, wDct0, wCntB, wIdxB, wTryF, gEqO, gInI, gIns, gTup, wDct1, gEqR, wFld, wsSetFld, wsAddFld, isO_rfl, wMeth, wMethF, wMethN, wmMeth, wsExprM, wsRetM, wmOne, wmCons, wMake, wmMake, wsSetMk, gToIntS, endsO, endO, startO, List.getElem?_cons_succ, wTryM, wIsO, rC, lt_lp, lt_rp, lt_lb, lt_rb, lt_cm, lt_mi, lt_0, lt_dg, ts_nt, gStr, wsSetV]
  refine loop_ind (S := List Pc × Sl × Sl × Sl × Sl) kT (fun s => [.fz (.lst (ts.map kT)), .own false (.lst (s.1.map dP)), s.2.1, s.2.2.1, s.2.2.2.1, s.2.2.2.2]) (fun r s => s.1 ++ lys r = lys ts ∧ ∀ t ∈ r, t ∈ ts) ?_ ?_ _ ([], .un, .un, .un, .un) ⟨by simp, fun t h => h⟩
  · rintro ⟨c, s2, s3, s4, s5⟩ ⟨h1, _⟩
    simp only [lys, List.append_nil] at h1
    subst h1
    walk_at "s"
    exact q
  · rintro t r ⟨c, s2, s3, s4, s5⟩ K ⟨h1, h2⟩ ih
    have ht := h2 t (.head _)
    have wt := wfTs_mem wf ht
    have dt := deps_mem (Nat.le_refl (deps ts)) ht
    simp only [lys] at h1
    have hl : c.length + (ly t).length + (lys r).length ≤ 300 := by
      have := congrArg List.length h1
      simp only [List.length_append] at this
      have e : (lys ts).length = pcss ts := lys_len ts
      omega
    have go : ∀ (c' : List Pc) (s3 s4 s5 : Sl), c' = c ++ ly t → K [.fz (.lst (ts.map kT)), .own false (.lst (c'.map dP)), .fz (kT t), s3, s4, s5] := fun c' s3 s4 s5 hv => ih (c', _, _, _, _) ⟨by simp only; rw [hv, List.append_assoc]; exact h1, fun t h => h2 t (.tail _ h)⟩
    cases t with
    | pc nm k =>
      simp only [kT, ly] at go hl ⊢
      walk_at "s"
      refine ⟨by omega, ?_⟩
      have := go (c ++ [(nm, k)]) s3 s4 s5 rfl
      rw [List.map_append] at this
      exact this
    | parts us => exact absurd wt (by simp [wfT])
    | times u k =>
      simp only [wfT] at wt
      obtain ⟨us, rfl, wu⟩ := wfP_parts wt
      simp only [dep] at dt
      simp only [kT, kTs_map, ly] at go hl ⊢
      walk_at "s"
      refine Br.f (by decide +kernel) ?_
      walk_at "s"
      refine Br.f (by decide +kernel) ?_
      walk_at "s"
      rw [timesC_len] at hl
      have el : (lys us).length = pcss us := lys_len us
      have hk0 : (lys us).length * k.natAbs ≤ 300 := by omega
      refine Br.d (fun h0 => ?_) (fun h0 => ?_)
      · walk_at "s"
        have hu : pcss us ≤ 300 := by rw [← el]; exact Nat.le_trans (Nat.le_mul_of_pos_right _ (by omega)) hk0
        refine ⟨us, rfl, by omega, wu, by omega, hu, ?_⟩
        walk_at "s"
        have r1 := min_rg h0
        have r2 := len_min hk0 h0
        have e := times_min hk0 h0
        refine ⟨⟨r1.1, r1.2, by omega⟩, ?_, go _ s3 s4 s5 (by rw [e])⟩
        rw [e, timesC_len]
        omega
      · walk_at "s"
        refine Br.d (fun h1 => ?_) (fun h1 => ?_)
        · walk_at "s"
          have hu : pcss us ≤ 300 := by rw [← el]; exact Nat.le_trans (Nat.le_mul_of_pos_right _ (by omega)) hk0
          refine ⟨us, rfl, by omega, wu, by omega, hu, ?_⟩
          walk_at "s"
          refine ⟨lys us, rfl, by omega, ?_⟩
          walk_at "s"
          have hk0' : (lys us).length * (-k).natAbs ≤ 300 := by rw [Int.natAbs_neg]; exact hk0
          have r1 := min_rg (k := -k) (by omega)
          have r2 := len_min hk0' (by omega)
          have lc := con_len (lys us)
          have e := times_min' hk0 h1
          refine ⟨⟨r1.1, r1.2, by rw [lc]; omega⟩, ?_, go _ s3 s4 _ (by rw [e])⟩
          rw [e, timesC_len]
          omega
        · have k0 : k = 0 := by omega
          subst k0
          refine go c s3 s4 s5 ?_
          simp [timesC]
    | back a b =>
      simp only [wfT] at wt
      obtain ⟨us, rfl, wu⟩ := wfP_parts wt.1
      obtain ⟨vs, rfl, wv⟩ := wfP_parts wt.2
      simp only [dep] at dt
      simp only [kT, kTs_map, ly] at go hl ⊢
      walk_at "s"
      refine Br.f (by decide +kernel) ?_
      walk_at "s"
      have lc1 := con_len (lys us)
      have lc2 := con_len (lys vs)
      have e1 : (lys us).length = pcss us := lys_len us
      have e2 : (lys vs).length = pcss vs := lys_len vs
      simp only [List.length_append] at hl
      refine ⟨us, rfl, by omega, wu, by omega, by omega, ?_⟩
      walk_at "s"
      refine ⟨vs, rfl, by omega, wv, by omega, by omega, ?_⟩
      walk_at "s"
      refine ⟨by omega, by omega, lys us, rfl, by omega, ?_⟩
      walk_at "s"
      refine ⟨by omega, lys vs, rfl, by omega, ?_⟩
      walk_at "s"
      refine ⟨by omega, go _ _ _ s5 ?_⟩
      simp only [List.append_assoc]
--@ contrary
def SP_contrary : Spec := fun ds _ R => ∃ c : List Pc, ds = [dC c] ∧ c.length ≤ 16777216 ∧ R (.new (.lst ((con c).map dP)))
theorem len_contrary (ds : List D) (x : XS) (R : Rt → Prop) (h : SP_contrary ds x R) : ds.length = ["cord"].length := by
  obtain ⟨c, rfl, _⟩ := h; rfl
def W_contrary : WS :=
  (wsRetF (wLc (wRev (wVar 0)) (wgTup 2 (wgCons (wgName 1) (wgCons (wgName 2) wgNil))) wtYes (wTup (wCons (wVar 1) (wCons (wUn (fun i => -i) (wVar 2)) wNil))) [1, 2]))
theorem pure_contrary (ds : List D) (x : XS) (R : Rt → Prop) (h : SP_contrary ds x R) : W_contrary (endsOf R x) (startE 3 ds) := by
  obtain ⟨c, rfl, hl, q⟩ := h
  simp only [W_contrary, wVar, wOwn, wC, wOp, onBl, wtOn, wChain, trD, wtVal, wtNot, wAnd, wOr, wAndV, wOrV, wNotV, wIf, wNil, wCons, wTup, wLst, wUn, wNew, gAdd, gInt, gInt0, gMul, gCatF, gRepF, wOpF, gEq, gCmp, gInS, gIsN, isN, gIsB, gIdx, woNone, woSome, gSl, wSl, gSlF, wSlF, wB, wBF, gLen, gInt1, gInt2, gToInt, gListF, tyName, gIsT, wIsT, wCall, Rt.d, Cn.d, onNew, wCallF, wCallN, wCallNF, nlR, wgName, wgNil, wgCons, wgTup, wSeq, wSeqT, wSigns, wRng1, wRng2, wRng3, wRev, wEnum, wZip, wLc, wtYes, wsNil, wsBrk, wsCnt, wsExpr, wsRet, wsRetF, wsRetOwn, wsRetN, wIfS, wsSet, wsSetF, wsAsg, wsPar, wsAug, gApp, gExt, gPop0, gRev, wMut, wsSetIx, wFor, wsRaise, wSeqS, wFrz, wsCallM, wsPopAdd, endsOf, endM, endsM, startM, startE, wipeE, smallI, CPow, Br_true, Br_false, Br_not, rngD_eq, dC, dP, dI, ex_atI_map, atI0, atI1, atI2, kit1, kit2, kit3, kit4, kit5, kit6, kit7, kit8, kit9, kit10, kit11, kit12, kit13, kit14, kit15, kit16, kit17, kit18, kit19, kit20, kit21, kit22, kit23, kit24, kit25, kit26, kit27, kit28, kit29, kit30, kit31, kit32, kit33, kit34, kit35, sizeLine_eq, true_and, and_true, exists_eq_left', Option.some.injEq, List.map_cons, List.map_nil, List.length_cons, List.length_nil, List.length_map, List.length_append, List.cons_append, List.nil_append, List.set_cons_zero, List.set_cons_succ, List.getElem?_cons_zero, List.getElem?_cons_succ, List.getElem?_nil, Nat.reduceSub, Nat.reduceAdd, Nat.zero_add, Nat.sub_self, List.replicate_succ, List.replicate_zero, Bool.false_bne, Bool.true_bne, Bool.false_xor, Bool.true_xor, Bool.not_true, Bool.not_false, Bool.not_not, beq_self_eq_true, Bool.and_true, Bool.true_and, nl, nls, decide_true, decide_false, exists_eq_left, Bool.false_eq_true, Option.some_inj, Int.reduceToNat, Int.reducePow, Int.reduceMul, Int.reduceSub, Int.reduceAdd, Int.reduceNeg, Nat.reducePow, Nat.reduceLeDiff, Int.reduceLE, Int.reduceLT, Int.reduceAbs, Int.natAbs_neg, Nat.reduceLT, divW_eq, mulW_eq, Bool.or_true, Bool.true_or, cut_map, ← List.map_append, ← List.map_reverse, castN, eq_self, Int.reduceEq, deqC, deq_self, rep_map, nls_dP, wsAugIx, tx_cps, tx_len, tx_app, tx_one, tx_nil, tx_cut, tx_signs, tx_rep, lit_empty, tx_inj, wJoin, gJoin, wmCall, wmOpL, wmOpR, wmIxR, wmTup2, wsSetM, wsAppM, wForM, gSum, gAny, gAll, gLtD, gInT, gSorted, gAddT, wThaw, gMaxL, wIsE, wIsV, wCallE, wTry, DEnds.off, gInB, wDct0, wCntB, wIdxB, wTryF, gEqO, gInI, gIns, gTup, wDct1, gEqR, wFld, wsSetFld, wsAddFld, isO_rfl, wMeth, wMethF, wMethN, wmMeth, wsExprM, wsRetM, wmOne, wmCons, wMake, wmMake, wsSetMk, gToIntS, endsO, endO, startO, List.getElem?_cons_succ, wTryM, wIsO, rC, lt_lp, lt_rp, lt_lb, lt_rb, lt_cm, lt_mi, lt_0, lt_dg, ts_nt, gStr, wsSetV]
  refine compL_map dP (fun p => dP (p.1, -p.2)) (fun p Q' hq => ?_) _ _ ?_ ?_
  · walk_at "s"
    simpa [dP] using hq
  · walk_at "s"; simpa using hl
  · simpa [con, Function.comp_def] using q
--@ Piece_laid
def SP_laid (n : Nat) : Spec := fun ds _ R => ∃ t, ds = [tD t] ∧ dep t ≤ n ∧ n ≤ 64 ∧ okT t ∧ pcs t ≤ 4000 ∧ R (.new (.lst ((ly t).map dP)))
theorem no_laid (ds : List D) (x : XS) (R : Rt → Prop) (h : SP_laid 0 ds x R) : False := by
  obtain ⟨t, _, hd, _⟩ := h
  have := dep_pos t
  omega
theorem len_Piece_laid (n : Nat) (ds : List D) (x : XS) (R : Rt → Prop) (h : SPc "Piece" (SP_laid n) ds x R) : ds.length = ["self"].length := by
  obtain ⟨_, t, rfl, _⟩ := h; rfl
def W_Piece_laid (SPr : Spec) : WS :=
  (wsRetF (wLst (wCons (wTup (wCons (wFld "Piece" ["nail", "turns"] 0 (wVar 0)) (wCons (wFld "Piece" ["nail", "turns"] 1 (wVar 0)) wNil))) wNil)))
theorem pure_Piece_laid (n : Nat) (ds : List D) (x : XS) (R : Rt → Prop) (h : SPc "Piece" (SP_laid (n + 1)) ds x R) : W_Piece_laid (SP_laid n) (endsOf R x) (startE 1 ds) := by
  obtain ⟨⟨fs, xs, r, e⟩, t, rfl, hd, hn, ok, hp, q⟩ := h
  obtain ⟨n, k, rfl⟩ := tD_pc e
  simp only [W_Piece_laid, tD, wVar, wOwn, wC, wOp, onBl, wtOn, wChain, trD, wtVal, wtNot, wAnd, wOr, wAndV, wOrV, wNotV, wIf, wNil, wCons, wTup, wLst, wUn, wNew, gAdd, gInt, gInt0, gMul, gCatF, gRepF, wOpF, gEq, gCmp, gInS, gIsN, isN, gIsB, gIdx, woNone, woSome, gSl, wSl, gSlF, wSlF, wB, wBF, gLen, gInt1, gInt2, gToInt, gListF, tyName, gIsT, wIsT, wCall, Rt.d, Cn.d, onNew, wCallF, wCallN, wCallNF, nlR, wgName, wgNil, wgCons, wgTup, wSeq, wSeqT, wSigns, wRng1, wRng2, wRng3, wRev, wEnum, wZip, wLc, wtYes, wsNil, wsBrk, wsCnt, wsExpr, wsRet, wsRetF, wsRetOwn, wsRetN, wIfS, wsSet, wsSetF, wsAsg, wsPar, wsAug, gApp, gExt, gPop0, gRev, wMut, wsSetIx, wFor, wsRaise, wSeqS, wFrz, wsCallM, wsPopAdd, endsOf, endM, endsM, startM, startE, wipeE, smallI, CPow, Br_true, Br_false, Br_not, rngD_eq, dC, dP, dI, ex_atI_map, atI0, atI1, atI2, kit1, kit2, kit3, kit4, kit5, kit6, kit7, kit8, kit9, kit10, kit11, kit12, kit13, kit14, kit15, kit16, kit17, kit18, kit19, kit20, kit21, kit22, kit23, kit24, kit25, kit26, kit27, kit28, kit29, kit30, kit31, kit32, kit33, kit34, kit35, sizeLine_eq, true_and, and_true, exists_eq_left', Option.some.injEq, List.map_cons, List.map_nil, List.length_cons, List.length_nil, List.length_map, List.length_append, List.cons_append, List.nil_append, List.set_cons_zero, List.set_cons_succ, List.getElem?_cons_zero, List.getElem?_cons_succ, List.getElem?_nil, Nat.reduceSub, Nat.reduceAdd, Nat.zero_add, Nat.sub_self, List.replicate_succ, List.replicate_zero, Bool.false_bne, Bool.true_bne, Bool.false_xor, Bool.true_xor, Bool.not_true, Bool.not_false, Bool.not_not, beq_self_eq_true, Bool.and_true, Bool.true_and, nl, nls, decide_true, decide_false, exists_eq_left, Bool.false_eq_true, Option.some_inj, Int.reduceToNat, Int.reducePow, Int.reduceMul, Int.reduceSub, Int.reduceAdd, Int.reduceNeg, Nat.reducePow, Nat.reduceLeDiff, Int.reduceLE, Int.reduceLT, Int.reduceAbs, Int.natAbs_neg, Nat.reduceLT, divW_eq, mulW_eq, Bool.or_true, Bool.true_or, cut_map, ← List.map_append, ← List.map_reverse, castN, eq_self, Int.reduceEq, deqC, deq_self, rep_map, nls_dP, wsAugIx, tx_cps, tx_len, tx_app, tx_one, tx_nil, tx_cut, tx_signs, tx_rep, lit_empty, tx_inj, wJoin, gJoin, wmCall, wmOpL, wmOpR, wmIxR, wmTup2, wsSetM, wsAppM, wForM, gSum, gAny, gAll, gLtD, gInT, gSorted, gAddT, wThaw, gMaxL, wIsE, wIsV, wCallE, wTry, DEnds.off, gInB, wDct0, wCntB, wIdxB, wTryF, gEqO, gInI, gIns, gTup, wDct1, gEqR, wFld, wsSetFld, wsAddFld, isO_rfl, wMeth, wMethF, wMethN, wmMeth, wsExprM, wsRetM, wmOne, wmCons, wMake, wmMake, wsSetMk, gToIntS, endsO, endO, startO, List.getElem?_cons_succ, wTryM, wIsO, rC, lt_lp, lt_rp, lt_lb, lt_rb, lt_cm, lt_mi, lt_0, lt_dg, ts_nt, gStr, wsSetV]
  simpa [ly, dP] using q
--@ Parts_laid
theorem len_Parts_laid (n : Nat) (ds : List D) (x : XS) (R : Rt → Prop) (h : SPc "Parts" (SP_laid n) ds x R) : ds.length = ["self"].length := by
  obtain ⟨_, t, rfl, _⟩ := h; rfl
def W_Parts_laid (SPr : Spec) : WS :=
  (wSeqS (wsSetF 1 (wLst wNil))
  (wSeqS (wFor (wSeq (wFld "Parts" ["parts"] 0 (wVar 0))) (wgName 2)
  (wMut 1 gExt (wCons (wMeth ["Piece", "Parts", "Times", "Back"] "laid" SPr (wVar 2) wNil) wNil)))
  (wsRetOwn 1)))
theorem pure_Parts_laid (n : Nat) (ds : List D) (x : XS) (R : Rt → Prop) (h : SPc "Parts" (SP_laid (n + 1)) ds x R) : W_Parts_laid (SP_laid n) (endsOf R x) (startE 3 ds) := by
  obtain ⟨⟨fs, xs, r, e⟩, t, rfl, hd, hn, ok, hp, q⟩ := h
  obtain ⟨ts, rfl⟩ := tD_pt e
  simp only [W_Parts_laid, tD, wVar, wOwn, wC, wOp, onBl, wtOn, wChain, trD, wtVal, wtNot, wAnd, wOr, wAndV, wOrV, wNotV, wIf, wNil, wCons, wTup, wLst, wUn, wNew, gAdd, gInt, gInt0, gMul, gCatF, gRepF, wOpF, gEq, gCmp, gInS, gIsN, isN, gIsB, gIdx, woNone, woSome, gSl, wSl, gSlF, wSlF, wB, wBF, gLen, gInt1, gInt2, gToInt, gListF, tyName, gIsT, wIsT, wCall, Rt.d, Cn.d, onNew, wCallF, wCallN, wCallNF, nlR, wgName, wgNil, wgCons, wgTup, wSeq, wSeqT, wSigns, wRng1, wRng2, wRng3, wRev, wEnum, wZip, wLc, wtYes, wsNil, wsBrk, wsCnt, wsExpr, wsRet, wsRetF, wsRetOwn, wsRetN, wIfS, wsSet, wsSetF, wsAsg, wsPar, wsAug, gApp, gExt, gPop0, gRev, wMut, wsSetIx, wFor, wsRaise, wSeqS, wFrz, wsCallM, wsPopAdd, endsOf, endM, endsM, startM, startE, wipeE, smallI, CPow, Br_true, Br_false, Br_not, rngD_eq, dC, dP, dI, ex_atI_map, atI0, atI1, atI2, kit1, kit2, kit3, kit4, kit5, kit6, kit7, kit8, kit9, kit10, kit11, kit12, kit13, kit14, kit15, kit16, kit17, kit18, kit19, kit20, kit21, kit22, kit23, kit24, kit25, kit26, kit27, kit28, kit29, kit30, kit31, kit32, kit33, kit34, kit35, sizeLine_eq, true_and, and_true, exists_eq_left', Option.some.injEq, List.map_cons, List.map_nil, List.length_cons, List.length_nil, List.length_map, List.length_append, List.cons_append, List.nil_append, List.set_cons_zero, List.set_cons_succ, List.getElem?_cons_zero, List.getElem?_cons_succ, List.getElem?_nil, Nat.reduceSub, Nat.reduceAdd, Nat.zero_add, Nat.sub_self, List.replicate_succ, List.replicate_zero, Bool.false_bne, Bool.true_bne, Bool.false_xor, Bool.true_xor, Bool.not_true, Bool.not_false, Bool.not_not, beq_self_eq_true, Bool.and_true, Bool.true_and, nl, nls, decide_true, decide_false, exists_eq_left, Bool.false_eq_true, Option.some_inj, Int.reduceToNat, Int.reducePow, Int.reduceMul, Int.reduceSub, Int.reduceAdd, Int.reduceNeg, Nat.reducePow, Nat.reduceLeDiff, Int.reduceLE, Int.reduceLT, Int.reduceAbs, Int.natAbs_neg, Nat.reduceLT, divW_eq, mulW_eq, Bool.or_true, Bool.true_or, cut_map, ← List.map_append, ← List.map_reverse, castN, eq_self, Int.reduceEq, deqC, deq_self, rep_map, nls_dP, wsAugIx, tx_cps, tx_len, tx_app, tx_one, tx_nil, tx_cut, tx_signs, tx_rep, lit_empty, tx_inj, wJoin, gJoin, wmCall, wmOpL, wmOpR, wmIxR, wmTup2, wsSetM, wsAppM, wForM, gSum, gAny, gAll, gLtD, gInT, gSorted, gAddT, wThaw, gMaxL, wIsE, wIsV, wCallE, wTry, DEnds.off, gInB, wDct0, wCntB, wIdxB, wTryF, gEqO, gInI, gIns, gTup, wDct1, gEqR, wFld, wsSetFld, wsAddFld, isO_rfl, wMeth, wMethF, wMethN, wmMeth, wsExprM, wsRetM, wmOne, wmCons, wMake, wmMake, wsSetMk, gToIntS, endsO, endO, startO, List.getElem?_cons_succ, wTryM, wIsO, rC, lt_lp, lt_rp, lt_lb, lt_rb, lt_cm, lt_mi, lt_0, lt_dg, ts_nt, gStr, wsSetV]
  simp only [dep] at hd
  simp only [okT] at ok
  simp only [pcs] at hp
  rw [tDs_map]
  refine loop_ind (S := List Pc × Sl) tD (fun s => [.fz (.obj "Parts" ["parts"] [.lst (ts.map tD)]), .own false (.lst (s.1.map dP)), s.2]) (fun r s => s.1 ++ lys r = lys ts ∧ ∀ t ∈ r, t ∈ ts) ?_ ?_ _ ([], .un) ⟨rfl, fun _ h => h⟩
  · rintro ⟨c, s⟩ ⟨h1, _⟩
    walk_at "s"
    simp only [lys, List.append_nil] at h1
    rw [h1]
    exact q
  · rintro t r ⟨c, s⟩ L ⟨h1, h2⟩ ih
    have ht := h2 t (by simp)
    walk_at "s"
    have hl := pcss_mem ht
    refine ⟨tD_laid, t, rfl, deps_mem (by omega) ht, by omega, okTs_mem ok.2 ht, by omega, ?_⟩
    walk_at "s"
    have e := congrArg List.length h1
    simp only [lys, List.length_append, ly_len, lys_len] at e
    refine ⟨by rw [ly_len]; omega, ?_⟩
    refine ih (c ++ ly t, _) ⟨?_, fun u hu => h2 u (by simp [hu])⟩
    simpa [lys] using h1
--@ Times_laid
theorem len_Times_laid (n : Nat) (ds : List D) (x : XS) (R : Rt → Prop) (h : SPc "Times" (SP_laid n) ds x R) : ds.length = ["self"].length := by
  obtain ⟨_, t, rfl, _⟩ := h; rfl
def W_Times_laid (SPr : Spec) : WS :=
  (wSeqS (wIfS (wtOn (wOp (gEq false) (wMethN ["Piece", "Parts", "Times", "Back"] "pieces" (SP_pieces 64) (wVar 0) wNil) (wC (.int 0))))
  (wsRetF (wLst wNil))
  wsNil)
  (wSeqS (wsSet 1 (wMeth ["Piece", "Parts", "Times", "Back"] "laid" SPr (wFld "Times" ["body", "number"] 0 (wVar 0)) wNil))
  (wSeqS (wIfS (wtOn (wOp (gCmp fun i j => decide (i < j)) (wFld "Times" ["body", "number"] 1 (wVar 0)) (wC (.int 0))))
  (wsSet 1 (wCall SP_contrary (wCons (wVar 1) wNil)))
  wsNil)
  (wsRetF (wOpF gRepF (wVar 1) (wB (gInt1 fun i => if i < 0 then -i else i) (wCons (wFld "Times" ["body", "number"] 1 (wVar 0)) wNil)))))))
theorem pure_Times_laid (n : Nat) (ds : List D) (x : XS) (R : Rt → Prop) (h : SPc "Times" (SP_laid (n + 1)) ds x R) : W_Times_laid (SP_laid n) (endsOf R x) (startE 2 ds) := by
  obtain ⟨⟨fs, xs, r, e⟩, t, rfl, hd, hn, ok, hp, q⟩ := h
  obtain ⟨u, k, rfl⟩ := tD_ti e
  simp only [W_Times_laid, tD, wVar, wOwn, wC, wOp, onBl, wtOn, wChain, trD, wtVal, wtNot, wAnd, wOr, wAndV, wOrV, wNotV, wIf, wNil, wCons, wTup, wLst, wUn, wNew, gAdd, gInt, gInt0, gMul, gCatF, gRepF, wOpF, gEq, gCmp, gInS, gIsN, isN, gIsB, gIdx, woNone, woSome, gSl, wSl, gSlF, wSlF, wB, wBF, gLen, gInt1, gInt2, gToInt, gListF, tyName, gIsT, wIsT, wCall, Rt.d, Cn.d, onNew, wCallF, wCallN, wCallNF, nlR, wgName, wgNil, wgCons, wgTup, wSeq, wSeqT, wSigns, wRng1, wRng2, wRng3, wRev, wEnum, wZip, wLc, wtYes, wsNil, wsBrk, wsCnt, wsExpr, wsRet, wsRetF, wsRetOwn, wsRetN, wIfS, wsSet, wsSetF, wsAsg, wsPar, wsAug, gApp, gExt, gPop0, gRev, wMut, wsSetIx, wFor, wsRaise, wSeqS, wFrz, wsCallM, wsPopAdd, endsOf, endM, endsM, startM, startE, wipeE, smallI, CPow, Br_true, Br_false, Br_not, rngD_eq, dC, dP, dI, ex_atI_map, atI0, atI1, atI2, kit1, kit2, kit3, kit4, kit5, kit6, kit7, kit8, kit9, kit10, kit11, kit12, kit13, kit14, kit15, kit16, kit17, kit18, kit19, kit20, kit21, kit22, kit23, kit24, kit25, kit26, kit27, kit28, kit29, kit30, kit31, kit32, kit33, kit34, kit35, sizeLine_eq, true_and, and_true, exists_eq_left', Option.some.injEq, List.map_cons, List.map_nil, List.length_cons, List.length_nil, List.length_map, List.length_append, List.cons_append, List.nil_append, List.set_cons_zero, List.set_cons_succ, List.getElem?_cons_zero, List.getElem?_cons_succ, List.getElem?_nil, Nat.reduceSub, Nat.reduceAdd, Nat.zero_add, Nat.sub_self, List.replicate_succ, List.replicate_zero, Bool.false_bne, Bool.true_bne, Bool.false_xor, Bool.true_xor, Bool.not_true, Bool.not_false, Bool.not_not, beq_self_eq_true, Bool.and_true, Bool.true_and, nl, nls, decide_true, decide_false, exists_eq_left, Bool.false_eq_true, Option.some_inj, Int.reduceToNat, Int.reducePow, Int.reduceMul, Int.reduceSub, Int.reduceAdd, Int.reduceNeg, Nat.reducePow, Nat.reduceLeDiff, Int.reduceLE, Int.reduceLT, Int.reduceAbs, Int.natAbs_neg, Nat.reduceLT, divW_eq, mulW_eq, Bool.or_true, Bool.true_or, cut_map, ← List.map_append, ← List.map_reverse, castN, eq_self, Int.reduceEq, deqC, deq_self, rep_map, nls_dP, wsAugIx, tx_cps, tx_len, tx_app, tx_one, tx_nil, tx_cut, tx_signs, tx_rep, lit_empty, tx_inj, wJoin, gJoin, wmCall, wmOpL, wmOpR, wmIxR, wmTup2, wsSetM, wsAppM, wForM, gSum, gAny, gAll, gLtD, gInT, gSorted, gAddT, wThaw, gMaxL, wIsE, wIsV, wCallE, wTry, DEnds.off, gInB, wDct0, wCntB, wIdxB, wTryF, gEqO, gInI, gIns, gTup, wDct1, gEqR, wFld, wsSetFld, wsAddFld, isO_rfl, wMeth, wMethF, wMethN, wmMeth, wsExprM, wsRetM, wmOne, wmCons, wMake, wmMake, wsSetMk, gToIntS, endsO, endO, startO, List.getElem?_cons_succ, wTryM, wIsO, rC, lt_lp, lt_rp, lt_lb, lt_rb, lt_cm, lt_mi, lt_0, lt_dg, ts_nt, gStr, wsSetV]
  have ok0 := ok
  have hd0 := hd
  simp only [dep] at hd
  simp only [okT] at ok
  refine ⟨by have := tD_pieces (t := .times u k); rw [tD] at this; exact this, .times u k, by rw [tD], by omega, by omega, ok0, rfl, ?_⟩
  walk_at "s"
  simp only [pcs] at hp
  have hz : (pcs (.times u k) : Int) = ((pcs u * k.natAbs : Nat) : Int) := by simp only [pcs]
  refine Br.d (fun h0 => ?_) (fun h0 => ?_)
  · have e : (timesC (ly u) k) = [] := List.length_eq_zero_iff.mp (by rw [times_len]; omega)
    simp only [ly, e, List.map_nil] at q
    exact ⟨Nat.zero_le _, q⟩
  · have n0 : pcs u * k.natAbs ≠ 0 := by omega
    have p1 : 0 < pcs u := Nat.pos_of_ne_zero fun z => n0 (by rw [z, Nat.zero_mul])
    have p2 : 0 < k.natAbs := Nat.pos_of_ne_zero fun z => n0 (by rw [z, Nat.mul_zero])
    have p3 : pcs u ≤ 4000 := Nat.le_trans (Nat.le_mul_of_pos_right _ p2) hp
    have p4 : k.natAbs ≤ 4000 := Nat.le_trans (Nat.le_mul_of_pos_left _ p1) hp
    clear hz h0
    walk_at "s"
    refine ⟨tD_laid, u, rfl, by omega, by omega, ok.2, p3, ?_⟩
    walk_at "s"
    have l1 := ly_len u
    simp only [ly, timesC] at q
    refine Br.d (fun h1 => ?_) (fun h1 => ?_)
    · walk_at "s"
      refine ⟨ly u, rfl, by omega, ?_⟩
      walk_at "s"
      rw [if_pos h1] at q
      rw [abs_nat, con_len, l1, Int.toNat_natCast]
      exact ⟨⟨by omega, by omega, by omega⟩, q⟩
    · walk_at "s"
      rw [if_neg h1] at q
      rw [abs_nat, l1, Int.toNat_natCast]
      exact ⟨⟨by omega, by omega, by omega⟩, q⟩
--@ Back_laid
theorem len_Back_laid (n : Nat) (ds : List D) (x : XS) (R : Rt → Prop) (h : SPc "Back" (SP_laid n) ds x R) : ds.length = ["self"].length := by
  obtain ⟨_, t, rfl, _⟩ := h; rfl
def W_Back_laid (SPr : Spec) : WS :=
  (wSeqS (wsSet 1 (wMeth ["Piece", "Parts", "Times", "Back"] "laid" SPr (wFld "Back" ["one", "other"] 0 (wVar 0)) wNil))
  (wSeqS (wsSet 2 (wMeth ["Piece", "Parts", "Times", "Back"] "laid" SPr (wFld "Back" ["one", "other"] 1 (wVar 0)) wNil))
  (wsRetF (wOpF gCatF (wOp gAdd (wOp gAdd (wVar 1) (wVar 2)) (wCall SP_contrary (wCons (wVar 1) wNil))) (wCall SP_contrary (wCons (wVar 2) wNil))))))
theorem pure_Back_laid (n : Nat) (ds : List D) (x : XS) (R : Rt → Prop) (h : SPc "Back" (SP_laid (n + 1)) ds x R) : W_Back_laid (SP_laid n) (endsOf R x) (startE 3 ds) := by
  obtain ⟨⟨fs, xs, r, e⟩, t, rfl, hd, hn, ok, hp, q⟩ := h
  obtain ⟨a, b, rfl⟩ := tD_bk e
  simp only [W_Back_laid, tD, wVar, wOwn, wC, wOp, onBl, wtOn, wChain, trD, wtVal, wtNot, wAnd, wOr, wAndV, wOrV, wNotV, wIf, wNil, wCons, wTup, wLst, wUn, wNew, gAdd, gInt, gInt0, gMul, gCatF, gRepF, wOpF, gEq, gCmp, gInS, gIsN, isN, gIsB, gIdx, woNone, woSome, gSl, wSl, gSlF, wSlF, wB, wBF, gLen, gInt1, gInt2, gToInt, gListF, tyName, gIsT, wIsT, wCall, Rt.d, Cn.d, onNew, wCallF, wCallN, wCallNF, nlR, wgName, wgNil, wgCons, wgTup, wSeq, wSeqT, wSigns, wRng1, wRng2, wRng3, wRev, wEnum, wZip, wLc, wtYes, wsNil, wsBrk, wsCnt, wsExpr, wsRet, wsRetF, wsRetOwn, wsRetN, wIfS, wsSet, wsSetF, wsAsg, wsPar, wsAug, gApp, gExt, gPop0, gRev, wMut, wsSetIx, wFor, wsRaise, wSeqS, wFrz, wsCallM, wsPopAdd, endsOf, endM, endsM, startM, startE, wipeE, smallI, CPow, Br_true, Br_false, Br_not, rngD_eq, dC, dP, dI, ex_atI_map, atI0, atI1, atI2, kit1, kit2, kit3, kit4, kit5, kit6, kit7, kit8, kit9, kit10, kit11, kit12, kit13, kit14, kit15, kit16, kit17, kit18, kit19, kit20, kit21, kit22, kit23, kit24, kit25, kit26, kit27, kit28, kit29, kit30, kit31, kit32, kit33, kit34, kit35, sizeLine_eq, true_and, and_true, exists_eq_left', Option.some.injEq, List.map_cons, List.map_nil, List.length_cons, List.length_nil, List.length_map, List.length_append, List.cons_append, List.nil_append, List.set_cons_zero, List.set_cons_succ, List.getElem?_cons_zero, List.getElem?_cons_succ, List.getElem?_nil, Nat.reduceSub, Nat.reduceAdd, Nat.zero_add, Nat.sub_self, List.replicate_succ, List.replicate_zero, Bool.false_bne, Bool.true_bne, Bool.false_xor, Bool.true_xor, Bool.not_true, Bool.not_false, Bool.not_not, beq_self_eq_true, Bool.and_true, Bool.true_and, nl, nls, decide_true, decide_false, exists_eq_left, Bool.false_eq_true, Option.some_inj, Int.reduceToNat, Int.reducePow, Int.reduceMul, Int.reduceSub, Int.reduceAdd, Int.reduceNeg, Nat.reducePow, Nat.reduceLeDiff, Int.reduceLE, Int.reduceLT, Int.reduceAbs, Int.natAbs_neg, Nat.reduceLT, divW_eq, mulW_eq, Bool.or_true, Bool.true_or, cut_map, ← List.map_append, ← List.map_reverse, castN, eq_self, Int.reduceEq, deqC, deq_self, rep_map, nls_dP, wsAugIx, tx_cps, tx_len, tx_app, tx_one, tx_nil, tx_cut, tx_signs, tx_rep, lit_empty, tx_inj, wJoin, gJoin, wmCall, wmOpL, wmOpR, wmIxR, wmTup2, wsSetM, wsAppM, wForM, gSum, gAny, gAll, gLtD, gInT, gSorted, gAddT, wThaw, gMaxL, wIsE, wIsV, wCallE, wTry, DEnds.off, gInB, wDct0, wCntB, wIdxB, wTryF, gEqO, gInI, gIns, gTup, wDct1, gEqR, wFld, wsSetFld, wsAddFld, isO_rfl, wMeth, wMethF, wMethN, wmMeth, wsExprM, wsRetM, wmOne, wmCons, wMake, wmMake, wsSetMk, gToIntS, endsO, endO, startO, List.getElem?_cons_succ, wTryM, wIsO, rC, lt_lp, lt_rp, lt_lb, lt_rb, lt_cm, lt_mi, lt_0, lt_dg, ts_nt, gStr, wsSetV]
  simp only [dep] at hd
  simp only [okT] at ok
  simp only [pcs] at hp
  refine ⟨tD_laid, a, rfl, by omega, by omega, ok.1, by omega, ?_⟩
  walk_at "s"
  refine ⟨tD_laid, b, rfl, by omega, by omega, ok.2, by omega, ?_⟩
  walk_at "s"
  have l1 := ly_len a
  have l2 := ly_len b
  refine ⟨by omega, ly a, rfl, by omega, ?_⟩
  walk_at "s"
  refine ⟨?_, ly b, rfl, by omega, ?_⟩
  · simp only [con_len, sizeLine_eq]
    omega
  walk_at "s"
  refine ⟨?_, ?_⟩
  · simp only [con_len]
    omega
  · simpa [ly] using q
--@ Term_cord
def SP_Term_cord : Spec := fun ds x R => ∃ t, ds = [tD t] ∧ dep t ≤ 64 ∧ okT t ∧ (4000 < pcs t → x "TooLong") ∧ (pcs t ≤ 4000 → R (.new (.lst ((ly t).map dP))))
theorem len_Term_cord (ds : List D) (x : XS) (R : Rt → Prop) (h : SP_Term_cord ds x R) : ds.length = ["self"].length := by
  obtain ⟨t, rfl, _⟩ := h; rfl
def W_Term_cord : WS :=
  (wSeqS (wIfS (wtOn (wOp (gCmp fun i j => decide (j < i)) (wMethN ["Piece", "Parts", "Times", "Back"] "pieces" (SP_pieces 64) (wVar 0) wNil) (wC C_MOST)))
  (wsRaise "TooLong")
  wsNil)
  (wsRetF (wMethF ["Piece", "Parts", "Times", "Back"] "laid" (SP_laid 64) (wVar 0) wNil)))
theorem pure_Term_cord (ds : List D) (x : XS) (R : Rt → Prop) (h : SP_Term_cord ds x R) : W_Term_cord (endsOf R x) (startE 1 ds) := by
  obtain ⟨t, rfl, hd, ok, q1, q2⟩ := h
  simp only [W_Term_cord, wVar, wOwn, wC, wOp, onBl, wtOn, wChain, trD, wtVal, wtNot, wAnd, wOr, wAndV, wOrV, wNotV, wIf, wNil, wCons, wTup, wLst, wUn, wNew, gAdd, gInt, gInt0, gMul, gCatF, gRepF, wOpF, gEq, gCmp, gInS, gIsN, isN, gIsB, gIdx, woNone, woSome, gSl, wSl, gSlF, wSlF, wB, wBF, gLen, gInt1, gInt2, gToInt, gListF, tyName, gIsT, wIsT, wCall, Rt.d, Cn.d, onNew, wCallF, wCallN, wCallNF, nlR, wgName, wgNil, wgCons, wgTup, wSeq, wSeqT, wSigns, wRng1, wRng2, wRng3, wRev, wEnum, wZip, wLc, wtYes, wsNil, wsBrk, wsCnt, wsExpr, wsRet, wsRetF, wsRetOwn, wsRetN, wIfS, wsSet, wsSetF, wsAsg, wsPar, wsAug, gApp, gExt, gPop0, gRev, wMut, wsSetIx, wFor, wsRaise, wSeqS, wFrz, wsCallM, wsPopAdd, endsOf, endM, endsM, startM, startE, wipeE, smallI, CPow, Br_true, Br_false, Br_not, rngD_eq, dC, dP, dI, ex_atI_map, atI0, atI1, atI2, kit1, kit2, kit3, kit4, kit5, kit6, kit7, kit8, kit9, kit10, kit11, kit12, kit13, kit14, kit15, kit16, kit17, kit18, kit19, kit20, kit21, kit22, kit23, kit24, kit25, kit26, kit27, kit28, kit29, kit30, kit31, kit32, kit33, kit34, kit35, sizeLine_eq, true_and, and_true, exists_eq_left', Option.some.injEq, List.map_cons, List.map_nil, List.length_cons, List.length_nil, List.length_map, List.length_append, List.cons_append, List.nil_append, List.set_cons_zero, List.set_cons_succ, List.getElem?_cons_zero, List.getElem?_cons_succ, List.getElem?_nil, Nat.reduceSub, Nat.reduceAdd, Nat.zero_add, Nat.sub_self, List.replicate_succ, List.replicate_zero, Bool.false_bne, Bool.true_bne, Bool.false_xor, Bool.true_xor, Bool.not_true, Bool.not_false, Bool.not_not, beq_self_eq_true, Bool.and_true, Bool.true_and, nl, nls, decide_true, decide_false, exists_eq_left, Bool.false_eq_true, Option.some_inj, Int.reduceToNat, Int.reducePow, Int.reduceMul, Int.reduceSub, Int.reduceAdd, Int.reduceNeg, Nat.reducePow, Nat.reduceLeDiff, Int.reduceLE, Int.reduceLT, Int.reduceAbs, Int.natAbs_neg, Nat.reduceLT, divW_eq, mulW_eq, Bool.or_true, Bool.true_or, cut_map, ← List.map_append, ← List.map_reverse, castN, eq_self, Int.reduceEq, deqC, deq_self, rep_map, nls_dP, wsAugIx, tx_cps, tx_len, tx_app, tx_one, tx_nil, tx_cut, tx_signs, tx_rep, lit_empty, tx_inj, wJoin, gJoin, wmCall, wmOpL, wmOpR, wmIxR, wmTup2, wsSetM, wsAppM, wForM, gSum, gAny, gAll, gLtD, gInT, gSorted, gAddT, wThaw, gMaxL, wIsE, wIsV, wCallE, wTry, DEnds.off, gInB, wDct0, wCntB, wIdxB, wTryF, gEqO, gInI, gIns, gTup, wDct1, gEqR, wFld, wsSetFld, wsAddFld, isO_rfl, wMeth, wMethF, wMethN, wmMeth, wsExprM, wsRetM, wmOne, wmCons, wMake, wmMake, wsSetMk, gToIntS, endsO, endO, startO, List.getElem?_cons_succ, wTryM, wIsO, rC, lt_lp, lt_rp, lt_lb, lt_rb, lt_cm, lt_mi, lt_0, lt_dg, ts_nt, gStr, wsSetV]
  refine ⟨tD_pieces, t, rfl, hd, by omega, ok, rfl, ?_⟩
  walk_at "s"
  unfold C_MOST
  walk_at "s"
  refine Br.d (fun h0 => ?_) (fun h0 => ?_)
  · walk_at "s"
    exact q1 (by omega)
  · walk_at "s"
    exact ⟨tD_laid, t, rfl, hd, by omega, ok, by omega, q2 (by omega)⟩
--@ law_same
theorem wf_row {p : List Nat → Option (Tm × Nat)} (hp : ∀ r t m, p r = some (t, m) → wfT t) : ∀ (L : Nat) (r : List Nat) (ts : List Tm) (m : Nat), pRow p L r = some (ts, m) → wfTs ts
  | 0, r, ts, m, h => by
    unfold pRow at h
    split at h
    · cases h; trivial
    · cases h
  | L + 1, r, ts, m, h => by
    unfold pRow at h
    split at h
    · cases h; trivial
    · split at h
      · cases h
      · rename_i t k e
        split at h
        · cases h
        · rename_i us j e2
          cases h
          exact ⟨hp _ _ _ e, wf_row hp L _ _ _ e2⟩
theorem wf_in {p : List Nat → Option (Tm × Nat)} (hp : ∀ r t m, p r = some (t, m) → wfT t) {c : Nat} {r : List Nat} {ts : List Tm} {m : Nat} (h : pIn (fun r => pRow p r.length r) c r = some (ts, m)) : wfTs ts := by
  obtain ⟨j, e, _⟩ := pIn_ok h
  exact wf_row hp _ _ _ _ e
theorem wf_part : ∀ (n : Nat) (r : List Nat) (t : Tm) (m : Nat), pPart n r = some (t, m) → wfT t := by
  intro n
  induction n with
  | zero =>
    intro r t m h
    cases r with
    | nil => rw [pPart_nil] at h; cases h
    | cons a r =>
      by_cases hz : 97 ≤ a ∧ a ≤ 122
      · rw [pPart_l hz] at h
        split at h
        · cases h
        · cases h
          exact tx_ok fun c hc => by rw [List.mem_singleton] at hc; rw [hc]; exact hz
      · rw [pPart_0 hz] at h; cases h
  | succ n ih =>
    intro r t m h
    cases r with
    | nil => rw [pPart_nil] at h; cases h
    | cons a r =>
      by_cases hz : 97 ≤ a ∧ a ≤ 122
      · rw [pPart_l hz] at h
        split at h
        · cases h
        · cases h
          exact tx_ok fun c hc => by rw [List.mem_singleton] at hc; rw [hc]; exact hz
      · by_cases h40 : a = 40
        · subst h40
          rw [pPart_lp] at h
          split at h
          · cases h
          · rename_i ts k e
            split at h
            · cases h
            · cases h
              exact wf_in ih e
        · by_cases h91 : a = 91
          · subst h91
            rw [pPart_lb] at h
            split at h
            · cases h
            · rename_i ts k e
              split at h
              · cases h
              · rename_i us j e2
                cases h
                exact ⟨wf_in ih e, wf_in ih e2⟩
          · rw [pPart_no hz h40 h91] at h; cases h
theorem wf_parse {s : List Nat} {t : Tm} (hs : s.length ≤ 1000000) (h : parse s = some t) : ∃ ts, t = .parts ts ∧ wfTs ts ∧ okT t ∧ deps ts ≤ 61 := by
  unfold parse at h
  split at h
  · cases h
  · rename_i ts m e
    split at h
    · cases h
      obtain ⟨o1, o2, o3, o4⟩ := pRow_ok (p := pPart 30) (B := 1000000) (d := 61) (fun r t m => pPart_ok 30 r t m) _ _ ts m hs e
      exact ⟨ts, rfl, wf_row (wf_part 30) _ _ _ _ e, ⟨by omega, o1⟩, o2⟩
    · cases h
mutual
theorem ok_ly : ∀ t : Tm, (wfT t ∨ wfP t) → OkC (ly t)
  | .pc n k, h => fun p hp => by
    simp only [wfT, wfP, or_false] at h
    simp only [ly, List.mem_singleton] at hp
    subst hp
    exact h
  | .parts ts, h => by
    simp only [wfT, wfP, false_or] at h
    exact ok_lys ts h
  | .times t k, h => by
    simp only [wfT, wfP, or_false] at h
    have o := ok_ly t (.inr h)
    intro p hp
    simp only [ly, timesC] at hp
    obtain ⟨d, hd, hp⟩ := List.mem_flatten.mp hp
    rw [List.eq_of_mem_replicate hd] at hp
    split at hp
    · exact con_ok o p hp
    · exact o p hp
  | .back a b, h => by
    simp only [wfT, wfP, or_false] at h
    have o1 := ok_ly a (.inr h.1)
    have o2 := ok_ly b (.inr h.2)
    exact ((o1.app o2).app (con_ok o1)).app (con_ok o2)
theorem ok_lys : ∀ ts : List Tm, wfTs ts → OkC (lys ts)
  | [], _ => fun p hp => by cases hp
  | t :: ts, h => by
    simp only [wfTs] at h
    exact (ok_ly t (.inl h.1)).app (ok_lys ts h.2)
end
def SP_law_same : Spec := fun ds _ R => ∃ s : List Nat, ds = [.str (tx s)] ∧ s.length ≤ 1000000 ∧ R (.val (.bl true))
theorem len_law_same (ds : List D) (x : XS) (R : Rt → Prop) (h : SP_law_same ds x R) : ds.length = ["_law_words_here"].length := by
  obtain ⟨s, rfl, _⟩ := h; rfl
def W_law_same_5 : WS :=
  (wsRet (wOrV (wOp (gCmp fun i j => decide (j < i)) (wVar 3) (wC (.int 300))) (wCall SP_law_right (wCons (wMeth ["Piece", "Parts", "Times", "Back"] "cord" SP_Term_cord (wVar 2) wNil) (wCons (wCall (SP_law_laid 64) (wCons (wVar 1) wNil)) wNil)))))
def W_law_same_4 : WS :=
  (wSeqS (wIfS (wtOn (wOp (gEq true) (wMethN ["Piece", "Parts", "Times", "Back"] "pieces" (SP_pieces 64) (wVar 2) wNil) (wVar 3)))
  (wsRet (wC (.bl false)))
  wsNil)
  W_law_same_5)
def W_law_same_3 : WS :=
  (wSeqS (wsSet 3 (wCall (SP_law_count 64) (wCons (wVar 1) wNil)))
  W_law_same_4)
def W_law_same_2 : WS :=
  (wSeqS (wIfS (wOr (wtOn (wOp (gIsN false) (wVar 1) (wC .non))) (wOr (wtOn (wOp (gIsN false) (wVar 2) (wC .non))) (wtOn (wOp (gEqO "Parts") (wVar 2) (wC (.str "another refusal"))))))
  (wsRet (wAndV (wOp (gIsN false) (wVar 1) (wC .non)) (wOp (gIsN false) (wVar 2) (wC .non))))
  wsNil)
  W_law_same_3)
def W_law_same_1 : WS :=
  (wSeqS (wsSet 2 (wCall SP_law_said (wCons (wVar 0) wNil)))
  W_law_same_2)
def W_law_same : WS :=
  (wSeqS (wsSet 1 (wCall SP_law_read (wCons (wVar 0) wNil)))
  W_law_same_1)
theorem pure_law_same (ds : List D) (x : XS) (R : Rt → Prop) (h : SP_law_same ds x R) : W_law_same (endsOf R x) (startE 4 ds) := by
  obtain ⟨s, rfl, hs, q⟩ := h
  simp only [W_law_same, wVar, wOwn, wC, wOp, onBl, wtOn, wChain, trD, wtVal, wtNot, wAnd, wOr, wAndV, wOrV, wNotV, wIf, wNil, wCons, wTup, wLst, wUn, wNew, gAdd, gInt, gInt0, gMul, gCatF, gRepF, wOpF, gEq, gCmp, gInS, gIsN, isN, gIsB, gIdx, woNone, woSome, gSl, wSl, gSlF, wSlF, wB, wBF, gLen, gInt1, gInt2, gToInt, gListF, tyName, gIsT, wIsT, wCall, Rt.d, Cn.d, onNew, wCallF, wCallN, wCallNF, nlR, wgName, wgNil, wgCons, wgTup, wSeq, wSeqT, wSigns, wRng1, wRng2, wRng3, wRev, wEnum, wZip, wLc, wtYes, wsNil, wsBrk, wsCnt, wsExpr, wsRet, wsRetF, wsRetOwn, wsRetN, wIfS, wsSet, wsSetF, wsAsg, wsPar, wsAug, gApp, gExt, gPop0, gRev, wMut, wsSetIx, wFor, wsRaise, wSeqS, wFrz, wsCallM, wsPopAdd, endsOf, endM, endsM, startM, startE, wipeE, smallI, CPow, Br_true, Br_false, Br_not, rngD_eq, dC, dP, dI, ex_atI_map, atI0, atI1, atI2, kit1, kit2, kit3, kit4, kit5, kit6, kit7, kit8, kit9, kit10, kit11, kit12, kit13, kit14, kit15, kit16, kit17, kit18, kit19, kit20, kit21, kit22, kit23, kit24, kit25, kit26, kit27, kit28, kit29, kit30, kit31, kit32, kit33, kit34, kit35, sizeLine_eq, true_and, and_true, exists_eq_left', Option.some.injEq, List.map_cons, List.map_nil, List.length_cons, List.length_nil, List.length_map, List.length_append, List.cons_append, List.nil_append, List.set_cons_zero, List.set_cons_succ, List.getElem?_cons_zero, List.getElem?_cons_succ, List.getElem?_nil, Nat.reduceSub, Nat.reduceAdd, Nat.zero_add, Nat.sub_self, List.replicate_succ, List.replicate_zero, Bool.false_bne, Bool.true_bne, Bool.false_xor, Bool.true_xor, Bool.not_true, Bool.not_false, Bool.not_not, beq_self_eq_true, Bool.and_true, Bool.true_and, nl, nls, decide_true, decide_false, exists_eq_left, Bool.false_eq_true, Option.some_inj, Int.reduceToNat, Int.reducePow, Int.reduceMul, Int.reduceSub, Int.reduceAdd, Int.reduceNeg, Nat.reducePow, Nat.reduceLeDiff, Int.reduceLE, Int.reduceLT, Int.reduceAbs, Int.natAbs_neg, Nat.reduceLT, divW_eq, mulW_eq, Bool.or_true, Bool.true_or, cut_map, ← List.map_append, ← List.map_reverse, castN, eq_self, Int.reduceEq, deqC, deq_self, rep_map, nls_dP, wsAugIx, tx_cps, tx_len, tx_app, tx_one, tx_nil, tx_cut, tx_signs, tx_rep, lit_empty, tx_inj, wJoin, gJoin, wmCall, wmOpL, wmOpR, wmIxR, wmTup2, wsSetM, wsAppM, wForM, gSum, gAny, gAll, gLtD, gInT, gSorted, gAddT, wThaw, gMaxL, wIsE, wIsV, wCallE, wTry, DEnds.off, gInB, wDct0, wCntB, wIdxB, wTryF, gEqO, gInI, gIns, gTup, wDct1, gEqR, wFld, wsSetFld, wsAddFld, isO_rfl, wMeth, wMethF, wMethN, wmMeth, wsExprM, wsRetM, wmOne, wmCons, wMake, wmMake, wsSetMk, gToIntS, endsO, endO, startO, List.getElem?_cons_succ, wTryM, wIsO, rC, lt_lp, lt_rp, lt_lb, lt_rb, lt_cm, lt_mi, lt_0, lt_dg, ts_nt, gStr, wsSetV]
  rcases hp : parse s with _ | t
  · refine ⟨s, rfl, hs, fun ts z => ?_, fun _ => ?_⟩
    · rw [hp] at z; cases z
    walk_at "s"
    simp only [W_law_same_1, wVar, wOwn, wC, wOp, onBl, wtOn, wChain, trD, wtVal, wtNot, wAnd, wOr, wAndV, wOrV, wNotV, wIf, wNil, wCons, wTup, wLst, wUn, wNew, gAdd, gInt, gInt0, gMul, gCatF, gRepF, wOpF, gEq, gCmp, gInS, gIsN, isN, gIsB, gIdx, woNone, woSome, gSl, wSl, gSlF, wSlF, wB, wBF, gLen, gInt1, gInt2, gToInt, gListF, tyName, gIsT, wIsT, wCall, Rt.d, Cn.d, onNew, wCallF, wCallN, wCallNF, nlR, wgName, wgNil, wgCons, wgTup, wSeq, wSeqT, wSigns, wRng1, wRng2, wRng3, wRev, wEnum, wZip, wLc, wtYes, wsNil, wsBrk, wsCnt, wsExpr, wsRet, wsRetF, wsRetOwn, wsRetN, wIfS, wsSet, wsSetF, wsAsg, wsPar, wsAug, gApp, gExt, gPop0, gRev, wMut, wsSetIx, wFor, wsRaise, wSeqS, wFrz, wsCallM, wsPopAdd, endsOf, endM, endsM, startM, startE, wipeE, smallI, CPow, Br_true, Br_false, Br_not, rngD_eq, dC, dP, dI, ex_atI_map, atI0, atI1, atI2, kit1, kit2, kit3, kit4, kit5, kit6, kit7, kit8, kit9, kit10, kit11, kit12, kit13, kit14, kit15, kit16, kit17, kit18, kit19, kit20, kit21, kit22, kit23, kit24, kit25, kit26, kit27, kit28, kit29, kit30, kit31, kit32, kit33, kit34, kit35, sizeLine_eq, true_and, and_true, exists_eq_left', Option.some.injEq, List.map_cons, List.map_nil, List.length_cons, List.length_nil, List.length_map, List.length_append, List.cons_append, List.nil_append, List.set_cons_zero, List.set_cons_succ, List.getElem?_cons_zero, List.getElem?_cons_succ, List.getElem?_nil, Nat.reduceSub, Nat.reduceAdd, Nat.zero_add, Nat.sub_self, List.replicate_succ, List.replicate_zero, Bool.false_bne, Bool.true_bne, Bool.false_xor, Bool.true_xor, Bool.not_true, Bool.not_false, Bool.not_not, beq_self_eq_true, Bool.and_true, Bool.true_and, nl, nls, decide_true, decide_false, exists_eq_left, Bool.false_eq_true, Option.some_inj, Int.reduceToNat, Int.reducePow, Int.reduceMul, Int.reduceSub, Int.reduceAdd, Int.reduceNeg, Nat.reducePow, Nat.reduceLeDiff, Int.reduceLE, Int.reduceLT, Int.reduceAbs, Int.natAbs_neg, Nat.reduceLT, divW_eq, mulW_eq, Bool.or_true, Bool.true_or, cut_map, ← List.map_append, ← List.map_reverse, castN, eq_self, Int.reduceEq, deqC, deq_self, rep_map, nls_dP, wsAugIx, tx_cps, tx_len, tx_app, tx_one, tx_nil, tx_cut, tx_signs, tx_rep, lit_empty, tx_inj, wJoin, gJoin, wmCall, wmOpL, wmOpR, wmIxR, wmTup2, wsSetM, wsAppM, wForM, gSum, gAny, gAll, gLtD, gInT, gSorted, gAddT, wThaw, gMaxL, wIsE, wIsV, wCallE, wTry, DEnds.off, gInB, wDct0, wCntB, wIdxB, wTryF, gEqO, gInI, gIns, gTup, wDct1, gEqR, wFld, wsSetFld, wsAddFld, isO_rfl, wMeth, wMethF, wMethN, wmMeth, wsExprM, wsRetM, wmOne, wmCons, wMake, wmMake, wsSetMk, gToIntS, endsO, endO, startO, List.getElem?_cons_succ, wTryM, wIsO, rC, lt_lp, lt_rp, lt_lb, lt_rb, lt_cm, lt_mi, lt_0, lt_dg, ts_nt, gStr, wsSetV]
    refine .inl ⟨s, rfl, hs, fun t z => ?_, fun _ => ?_⟩
    · rw [hp] at z; cases z
    walk_at "s"
    simp only [W_law_same_2, wVar, wOwn, wC, wOp, onBl, wtOn, wChain, trD, wtVal, wtNot, wAnd, wOr, wAndV, wOrV, wNotV, wIf, wNil, wCons, wTup, wLst, wUn, wNew, gAdd, gInt, gInt0, gMul, gCatF, gRepF, wOpF, gEq, gCmp, gInS, gIsN, isN, gIsB, gIdx, woNone, woSome, gSl, wSl, gSlF, wSlF, wB, wBF, gLen, gInt1, gInt2, gToInt, gListF, tyName, gIsT, wIsT, wCall, Rt.d, Cn.d, onNew, wCallF, wCallN, wCallNF, nlR, wgName, wgNil, wgCons, wgTup, wSeq, wSeqT, wSigns, wRng1, wRng2, wRng3, wRev, wEnum, wZip, wLc, wtYes, wsNil, wsBrk, wsCnt, wsExpr, wsRet, wsRetF, wsRetOwn, wsRetN, wIfS, wsSet, wsSetF, wsAsg, wsPar, wsAug, gApp, gExt, gPop0, gRev, wMut, wsSetIx, wFor, wsRaise, wSeqS, wFrz, wsCallM, wsPopAdd, endsOf, endM, endsM, startM, startE, wipeE, smallI, CPow, Br_true, Br_false, Br_not, rngD_eq, dC, dP, dI, ex_atI_map, atI0, atI1, atI2, kit1, kit2, kit3, kit4, kit5, kit6, kit7, kit8, kit9, kit10, kit11, kit12, kit13, kit14, kit15, kit16, kit17, kit18, kit19, kit20, kit21, kit22, kit23, kit24, kit25, kit26, kit27, kit28, kit29, kit30, kit31, kit32, kit33, kit34, kit35, sizeLine_eq, true_and, and_true, exists_eq_left', Option.some.injEq, List.map_cons, List.map_nil, List.length_cons, List.length_nil, List.length_map, List.length_append, List.cons_append, List.nil_append, List.set_cons_zero, List.set_cons_succ, List.getElem?_cons_zero, List.getElem?_cons_succ, List.getElem?_nil, Nat.reduceSub, Nat.reduceAdd, Nat.zero_add, Nat.sub_self, List.replicate_succ, List.replicate_zero, Bool.false_bne, Bool.true_bne, Bool.false_xor, Bool.true_xor, Bool.not_true, Bool.not_false, Bool.not_not, beq_self_eq_true, Bool.and_true, Bool.true_and, nl, nls, decide_true, decide_false, exists_eq_left, Bool.false_eq_true, Option.some_inj, Int.reduceToNat, Int.reducePow, Int.reduceMul, Int.reduceSub, Int.reduceAdd, Int.reduceNeg, Nat.reducePow, Nat.reduceLeDiff, Int.reduceLE, Int.reduceLT, Int.reduceAbs, Int.natAbs_neg, Nat.reduceLT, divW_eq, mulW_eq, Bool.or_true, Bool.true_or, cut_map, ← List.map_append, ← List.map_reverse, castN, eq_self, Int.reduceEq, deqC, deq_self, rep_map, nls_dP, wsAugIx, tx_cps, tx_len, tx_app, tx_one, tx_nil, tx_cut, tx_signs, tx_rep, lit_empty, tx_inj, wJoin, gJoin, wmCall, wmOpL, wmOpR, wmIxR, wmTup2, wsSetM, wsAppM, wForM, gSum, gAny, gAll, gLtD, gInT, gSorted, gAddT, wThaw, gMaxL, wIsE, wIsV, wCallE, wTry, DEnds.off, gInB, wDct0, wCntB, wIdxB, wTryF, gEqO, gInI, gIns, gTup, wDct1, gEqR, wFld, wsSetFld, wsAddFld, isO_rfl, wMeth, wMethF, wMethN, wmMeth, wsExprM, wsRetM, wmOne, wmCons, wMake, wmMake, wsSetMk, gToIntS, endsO, endO, startO, List.getElem?_cons_succ, wTryM, wIsO, rC, lt_lp, lt_rp, lt_lb, lt_rb, lt_cm, lt_mi, lt_0, lt_dg, ts_nt, gStr, wsSetV]
    exact q
  · obtain ⟨ts, rfl, wf, ok, hd⟩ := wf_parse hs hp
    refine ⟨s, rfl, hs, fun us z => ?_, fun z => ?_⟩
    rotate_left
    · rw [hp] at z; cases z
    rw [hp] at z
    cases z
    walk_at "s"
    simp only [W_law_same_1, wVar, wOwn, wC, wOp, onBl, wtOn, wChain, trD, wtVal, wtNot, wAnd, wOr, wAndV, wOrV, wNotV, wIf, wNil, wCons, wTup, wLst, wUn, wNew, gAdd, gInt, gInt0, gMul, gCatF, gRepF, wOpF, gEq, gCmp, gInS, gIsN, isN, gIsB, gIdx, woNone, woSome, gSl, wSl, gSlF, wSlF, wB, wBF, gLen, gInt1, gInt2, gToInt, gListF, tyName, gIsT, wIsT, wCall, Rt.d, Cn.d, onNew, wCallF, wCallN, wCallNF, nlR, wgName, wgNil, wgCons, wgTup, wSeq, wSeqT, wSigns, wRng1, wRng2, wRng3, wRev, wEnum, wZip, wLc, wtYes, wsNil, wsBrk, wsCnt, wsExpr, wsRet, wsRetF, wsRetOwn, wsRetN, wIfS, wsSet, wsSetF, wsAsg, wsPar, wsAug, gApp, gExt, gPop0, gRev, wMut, wsSetIx, wFor, wsRaise, wSeqS, wFrz, wsCallM, wsPopAdd, endsOf, endM, endsM, startM, startE, wipeE, smallI, CPow, Br_true, Br_false, Br_not, rngD_eq, dC, dP, dI, ex_atI_map, atI0, atI1, atI2, kit1, kit2, kit3, kit4, kit5, kit6, kit7, kit8, kit9, kit10, kit11, kit12, kit13, kit14, kit15, kit16, kit17, kit18, kit19, kit20, kit21, kit22, kit23, kit24, kit25, kit26, kit27, kit28, kit29, kit30, kit31, kit32, kit33, kit34, kit35, sizeLine_eq, true_and, and_true, exists_eq_left', Option.some.injEq, List.map_cons, List.map_nil, List.length_cons, List.length_nil, List.length_map, List.length_append, List.cons_append, List.nil_append, List.set_cons_zero, List.set_cons_succ, List.getElem?_cons_zero, List.getElem?_cons_succ, List.getElem?_nil, Nat.reduceSub, Nat.reduceAdd, Nat.zero_add, Nat.sub_self, List.replicate_succ, List.replicate_zero, Bool.false_bne, Bool.true_bne, Bool.false_xor, Bool.true_xor, Bool.not_true, Bool.not_false, Bool.not_not, beq_self_eq_true, Bool.and_true, Bool.true_and, nl, nls, decide_true, decide_false, exists_eq_left, Bool.false_eq_true, Option.some_inj, Int.reduceToNat, Int.reducePow, Int.reduceMul, Int.reduceSub, Int.reduceAdd, Int.reduceNeg, Nat.reducePow, Nat.reduceLeDiff, Int.reduceLE, Int.reduceLT, Int.reduceAbs, Int.natAbs_neg, Nat.reduceLT, divW_eq, mulW_eq, Bool.or_true, Bool.true_or, cut_map, ← List.map_append, ← List.map_reverse, castN, eq_self, Int.reduceEq, deqC, deq_self, rep_map, nls_dP, wsAugIx, tx_cps, tx_len, tx_app, tx_one, tx_nil, tx_cut, tx_signs, tx_rep, lit_empty, tx_inj, wJoin, gJoin, wmCall, wmOpL, wmOpR, wmIxR, wmTup2, wsSetM, wsAppM, wForM, gSum, gAny, gAll, gLtD, gInT, gSorted, gAddT, wThaw, gMaxL, wIsE, wIsV, wCallE, wTry, DEnds.off, gInB, wDct0, wCntB, wIdxB, wTryF, gEqO, gInI, gIns, gTup, wDct1, gEqR, wFld, wsSetFld, wsAddFld, isO_rfl, wMeth, wMethF, wMethN, wmMeth, wsExprM, wsRetM, wmOne, wmCons, wMake, wmMake, wsSetMk, gToIntS, endsO, endO, startO, List.getElem?_cons_succ, wTryM, wIsO, rC, lt_lp, lt_rp, lt_lb, lt_rb, lt_cm, lt_mi, lt_0, lt_dg, ts_nt, gStr, wsSetV]
    refine .inl ⟨s, rfl, hs, fun t z => ?_, fun z => ?_⟩
    rotate_left
    · rw [hp] at z; cases z
    rw [hp] at z
    cases z
    walk_at "s"
    have rest : W_law_same_3 { nx := fun _ => R (.val .non), rt := fun r _ => R r, ex := x } [.fz (.str (tx s)), .fz (.lst (ts.map kT)), .fz (tD (.parts ts)), .un] := by
      simp only [W_law_same_3, wVar, wOwn, wC, wOp, onBl, wtOn, wChain, trD, wtVal, wtNot, wAnd, wOr, wAndV, wOrV, wNotV, wIf, wNil, wCons, wTup, wLst, wUn, wNew, gAdd, gInt, gInt0, gMul, gCatF, gRepF, wOpF, gEq, gCmp, gInS, gIsN, isN, gIsB, gIdx, woNone, woSome, gSl, wSl, gSlF, wSlF, wB, wBF, gLen, gInt1, gInt2, gToInt, gListF, tyName, gIsT, wIsT, wCall, Rt.d, Cn.d, onNew, wCallF, wCallN, wCallNF, nlR, wgName, wgNil, wgCons, wgTup, wSeq, wSeqT, wSigns, wRng1, wRng2, wRng3, wRev, wEnum, wZip, wLc, wtYes, wsNil, wsBrk, wsCnt, wsExpr, wsRet, wsRetF, wsRetOwn, wsRetN, wIfS, wsSet, wsSetF, wsAsg, wsPar, wsAug, gApp, gExt, gPop0, gRev, wMut, wsSetIx, wFor, wsRaise, wSeqS, wFrz, wsCallM, wsPopAdd, endsOf, endM, endsM, startM, startE, wipeE, smallI, CPow, Br_true, Br_false, Br_not, rngD_eq, dC, dP, dI, ex_atI_map, atI0, atI1, atI2, kit1, kit2, kit3, kit4, kit5, kit6, kit7, kit8, kit9, kit10, kit11, kit12, kit13, kit14, kit15, kit16, kit17, kit18, kit19, kit20, kit21, kit22, kit23, kit24, kit25, kit26, kit27, kit28, kit29, kit30, kit31, kit32, kit33, kit34, kit35, sizeLine_eq, true_and, and_true, exists_eq_left', Option.some.injEq, List.map_cons, List.map_nil, List.length_cons, List.length_nil, List.length_map, List.length_append, List.cons_append, List.nil_append, List.set_cons_zero, List.set_cons_succ, List.getElem?_cons_zero, List.getElem?_cons_succ, List.getElem?_nil, Nat.reduceSub, Nat.reduceAdd, Nat.zero_add, Nat.sub_self, List.replicate_succ, List.replicate_zero, Bool.false_bne, Bool.true_bne, Bool.false_xor, Bool.true_xor, Bool.not_true, Bool.not_false, Bool.not_not, beq_self_eq_true, Bool.and_true, Bool.true_and, nl, nls, decide_true, decide_false, exists_eq_left, Bool.false_eq_true, Option.some_inj, Int.reduceToNat, Int.reducePow, Int.reduceMul, Int.reduceSub, Int.reduceAdd, Int.reduceNeg, Nat.reducePow, Nat.reduceLeDiff, Int.reduceLE, Int.reduceLT, Int.reduceAbs, Int.natAbs_neg, Nat.reduceLT, divW_eq, mulW_eq, Bool.or_true, Bool.true_or, cut_map, ← List.map_append, ← List.map_reverse, castN, eq_self, Int.reduceEq, deqC, deq_self, rep_map, nls_dP, wsAugIx, tx_cps, tx_len, tx_app, tx_one, tx_nil, tx_cut, tx_signs, tx_rep, lit_empty, tx_inj, wJoin, gJoin, wmCall, wmOpL, wmOpR, wmIxR, wmTup2, wsSetM, wsAppM, wForM, gSum, gAny, gAll, gLtD, gInT, gSorted, gAddT, wThaw, gMaxL, wIsE, wIsV, wCallE, wTry, DEnds.off, gInB, wDct0, wCntB, wIdxB, wTryF, gEqO, gInI, gIns, gTup, wDct1, gEqR, wFld, wsSetFld, wsAddFld, isO_rfl, wMeth, wMethF, wMethN, wmMeth, wsExprM, wsRetM, wmOne, wmCons, wMake, wmMake, wsSetMk, gToIntS, endsO, endO, startO, List.getElem?_cons_succ, wTryM, wIsO, rC, lt_lp, lt_rp, lt_lb, lt_rb, lt_cm, lt_mi, lt_0, lt_dg, ts_nt, gStr, wsSetV]
      refine ⟨ts, rfl, by omega, wf, ok.2, by omega, ?_⟩
      walk_at "s"
      simp only [W_law_same_4, wVar, wOwn, wC, wOp, onBl, wtOn, wChain, trD, wtVal, wtNot, wAnd, wOr, wAndV, wOrV, wNotV, wIf, wNil, wCons, wTup, wLst, wUn, wNew, gAdd, gInt, gInt0, gMul, gCatF, gRepF, wOpF, gEq, gCmp, gInS, gIsN, isN, gIsB, gIdx, woNone, woSome, gSl, wSl, gSlF, wSlF, wB, wBF, gLen, gInt1, gInt2, gToInt, gListF, tyName, gIsT, wIsT, wCall, Rt.d, Cn.d, onNew, wCallF, wCallN, wCallNF, nlR, wgName, wgNil, wgCons, wgTup, wSeq, wSeqT, wSigns, wRng1, wRng2, wRng3, wRev, wEnum, wZip, wLc, wtYes, wsNil, wsBrk, wsCnt, wsExpr, wsRet, wsRetF, wsRetOwn, wsRetN, wIfS, wsSet, wsSetF, wsAsg, wsPar, wsAug, gApp, gExt, gPop0, gRev, wMut, wsSetIx, wFor, wsRaise, wSeqS, wFrz, wsCallM, wsPopAdd, endsOf, endM, endsM, startM, startE, wipeE, smallI, CPow, Br_true, Br_false, Br_not, rngD_eq, dC, dP, dI, ex_atI_map, atI0, atI1, atI2, kit1, kit2, kit3, kit4, kit5, kit6, kit7, kit8, kit9, kit10, kit11, kit12, kit13, kit14, kit15, kit16, kit17, kit18, kit19, kit20, kit21, kit22, kit23, kit24, kit25, kit26, kit27, kit28, kit29, kit30, kit31, kit32, kit33, kit34, kit35, sizeLine_eq, true_and, and_true, exists_eq_left', Option.some.injEq, List.map_cons, List.map_nil, List.length_cons, List.length_nil, List.length_map, List.length_append, List.cons_append, List.nil_append, List.set_cons_zero, List.set_cons_succ, List.getElem?_cons_zero, List.getElem?_cons_succ, List.getElem?_nil, Nat.reduceSub, Nat.reduceAdd, Nat.zero_add, Nat.sub_self, List.replicate_succ, List.replicate_zero, Bool.false_bne, Bool.true_bne, Bool.false_xor, Bool.true_xor, Bool.not_true, Bool.not_false, Bool.not_not, beq_self_eq_true, Bool.and_true, Bool.true_and, nl, nls, decide_true, decide_false, exists_eq_left, Bool.false_eq_true, Option.some_inj, Int.reduceToNat, Int.reducePow, Int.reduceMul, Int.reduceSub, Int.reduceAdd, Int.reduceNeg, Nat.reducePow, Nat.reduceLeDiff, Int.reduceLE, Int.reduceLT, Int.reduceAbs, Int.natAbs_neg, Nat.reduceLT, divW_eq, mulW_eq, Bool.or_true, Bool.true_or, cut_map, ← List.map_append, ← List.map_reverse, castN, eq_self, Int.reduceEq, deqC, deq_self, rep_map, nls_dP, wsAugIx, tx_cps, tx_len, tx_app, tx_one, tx_nil, tx_cut, tx_signs, tx_rep, lit_empty, tx_inj, wJoin, gJoin, wmCall, wmOpL, wmOpR, wmIxR, wmTup2, wsSetM, wsAppM, wForM, gSum, gAny, gAll, gLtD, gInT, gSorted, gAddT, wThaw, gMaxL, wIsE, wIsV, wCallE, wTry, DEnds.off, gInB, wDct0, wCntB, wIdxB, wTryF, gEqO, gInI, gIns, gTup, wDct1, gEqR, wFld, wsSetFld, wsAddFld, isO_rfl, wMeth, wMethF, wMethN, wmMeth, wsExprM, wsRetM, wmOne, wmCons, wMake, wmMake, wsSetMk, gToIntS, endsO, endO, startO, List.getElem?_cons_succ, wTryM, wIsO, rC, lt_lp, lt_rp, lt_lb, lt_rb, lt_cm, lt_mi, lt_0, lt_dg, ts_nt, gStr, wsSetV]
      refine ⟨tD_pieces, .parts ts, rfl, by simp only [dep]; omega, by omega, ok, rfl, ?_⟩
      walk_at "s"
      refine Br.t (by simp only [pcs]) ?_
      simp only [W_law_same_5, wVar, wOwn, wC, wOp, onBl, wtOn, wChain, trD, wtVal, wtNot, wAnd, wOr, wAndV, wOrV, wNotV, wIf, wNil, wCons, wTup, wLst, wUn, wNew, gAdd, gInt, gInt0, gMul, gCatF, gRepF, wOpF, gEq, gCmp, gInS, gIsN, isN, gIsB, gIdx, woNone, woSome, gSl, wSl, gSlF, wSlF, wB, wBF, gLen, gInt1, gInt2, gToInt, gListF, tyName, gIsT, wIsT, wCall, Rt.d, Cn.d, onNew, wCallF, wCallN, wCallNF, nlR, wgName, wgNil, wgCons, wgTup, wSeq, wSeqT, wSigns, wRng1, wRng2, wRng3, wRev, wEnum, wZip, wLc, wtYes, wsNil, wsBrk, wsCnt, wsExpr, wsRet, wsRetF, wsRetOwn, wsRetN, wIfS, wsSet, wsSetF, wsAsg, wsPar, wsAug, gApp, gExt, gPop0, gRev, wMut, wsSetIx, wFor, wsRaise, wSeqS, wFrz, wsCallM, wsPopAdd, endsOf, endM, endsM, startM, startE, wipeE, smallI, CPow, Br_true, Br_false, Br_not, rngD_eq, dC, dP, dI, ex_atI_map, atI0, atI1, atI2, kit1, kit2, kit3, kit4, kit5, kit6, kit7, kit8, kit9, kit10, kit11, kit12, kit13, kit14, kit15, kit16, kit17, kit18, kit19, kit20, kit21, kit22, kit23, kit24, kit25, kit26, kit27, kit28, kit29, kit30, kit31, kit32, kit33, kit34, kit35, sizeLine_eq, true_and, and_true, exists_eq_left', Option.some.injEq, List.map_cons, List.map_nil, List.length_cons, List.length_nil, List.length_map, List.length_append, List.cons_append, List.nil_append, List.set_cons_zero, List.set_cons_succ, List.getElem?_cons_zero, List.getElem?_cons_succ, List.getElem?_nil, Nat.reduceSub, Nat.reduceAdd, Nat.zero_add, Nat.sub_self, List.replicate_succ, List.replicate_zero, Bool.false_bne, Bool.true_bne, Bool.false_xor, Bool.true_xor, Bool.not_true, Bool.not_false, Bool.not_not, beq_self_eq_true, Bool.and_true, Bool.true_and, nl, nls, decide_true, decide_false, exists_eq_left, Bool.false_eq_true, Option.some_inj, Int.reduceToNat, Int.reducePow, Int.reduceMul, Int.reduceSub, Int.reduceAdd, Int.reduceNeg, Nat.reducePow, Nat.reduceLeDiff, Int.reduceLE, Int.reduceLT, Int.reduceAbs, Int.natAbs_neg, Nat.reduceLT, divW_eq, mulW_eq, Bool.or_true, Bool.true_or, cut_map, ← List.map_append, ← List.map_reverse, castN, eq_self, Int.reduceEq, deqC, deq_self, rep_map, nls_dP, wsAugIx, tx_cps, tx_len, tx_app, tx_one, tx_nil, tx_cut, tx_signs, tx_rep, lit_empty, tx_inj, wJoin, gJoin, wmCall, wmOpL, wmOpR, wmIxR, wmTup2, wsSetM, wsAppM, wForM, gSum, gAny, gAll, gLtD, gInT, gSorted, gAddT, wThaw, gMaxL, wIsE, wIsV, wCallE, wTry, DEnds.off, gInB, wDct0, wCntB, wIdxB, wTryF, gEqO, gInI, gIns, gTup, wDct1, gEqR, wFld, wsSetFld, wsAddFld, isO_rfl, wMeth, wMethF, wMethN, wmMeth, wsExprM, wsRetM, wmOne, wmCons, wMake, wmMake, wsSetMk, gToIntS, endsO, endO, startO, List.getElem?_cons_succ, wTryM, wIsO, rC, lt_lp, lt_rp, lt_lb, lt_rb, lt_cm, lt_mi, lt_0, lt_dg, ts_nt, gStr, wsSetV]
      refine Br.d (fun h => ?_) (fun h => ?_)
      · walk_at "s"
        rw [decide_eq_true h]
        exact q
      · walk_at "s"
        have e := lys_len ts
        refine ⟨tD_cord, .parts ts, rfl, by simp only [dep]; omega, ok, fun z => ?_, fun z => ?_⟩
        · simp only [pcs] at z
          omega
        walk_at "s"
        refine ⟨ts, rfl, by omega, wf, by omega, by omega, ?_⟩
        walk_at "s"
        simp only [ly]
        exact ⟨lys ts, rfl, by omega, ok_lys ts wf, q⟩
    simp only [W_law_same_2, wVar, wOwn, wC, wOp, onBl, wtOn, wChain, trD, wtVal, wtNot, wAnd, wOr, wAndV, wOrV, wNotV, wIf, wNil, wCons, wTup, wLst, wUn, wNew, gAdd, gInt, gInt0, gMul, gCatF, gRepF, wOpF, gEq, gCmp, gInS, gIsN, isN, gIsB, gIdx, woNone, woSome, gSl, wSl, gSlF, wSlF, wB, wBF, gLen, gInt1, gInt2, gToInt, gListF, tyName, gIsT, wIsT, wCall, Rt.d, Cn.d, onNew, wCallF, wCallN, wCallNF, nlR, wgName, wgNil, wgCons, wgTup, wSeq, wSeqT, wSigns, wRng1, wRng2, wRng3, wRev, wEnum, wZip, wLc, wtYes, wsNil, wsBrk, wsCnt, wsExpr, wsRet, wsRetF, wsRetOwn, wsRetN, wIfS, wsSet, wsSetF, wsAsg, wsPar, wsAug, gApp, gExt, gPop0, gRev, wMut, wsSetIx, wFor, wsRaise, wSeqS, wFrz, wsCallM, wsPopAdd, endsOf, endM, endsM, startM, startE, wipeE, smallI, CPow, Br_true, Br_false, Br_not, rngD_eq, dC, dP, dI, ex_atI_map, atI0, atI1, atI2, kit1, kit2, kit3, kit4, kit5, kit6, kit7, kit8, kit9, kit10, kit11, kit12, kit13, kit14, kit15, kit16, kit17, kit18, kit19, kit20, kit21, kit22, kit23, kit24, kit25, kit26, kit27, kit28, kit29, kit30, kit31, kit32, kit33, kit34, kit35, sizeLine_eq, true_and, and_true, exists_eq_left', Option.some.injEq, List.map_cons, List.map_nil, List.length_cons, List.length_nil, List.length_map, List.length_append, List.cons_append, List.nil_append, List.set_cons_zero, List.set_cons_succ, List.getElem?_cons_zero, List.getElem?_cons_succ, List.getElem?_nil, Nat.reduceSub, Nat.reduceAdd, Nat.zero_add, Nat.sub_self, List.replicate_succ, List.replicate_zero, Bool.false_bne, Bool.true_bne, Bool.false_xor, Bool.true_xor, Bool.not_true, Bool.not_false, Bool.not_not, beq_self_eq_true, Bool.and_true, Bool.true_and, nl, nls, decide_true, decide_false, exists_eq_left, Bool.false_eq_true, Option.some_inj, Int.reduceToNat, Int.reducePow, Int.reduceMul, Int.reduceSub, Int.reduceAdd, Int.reduceNeg, Nat.reducePow, Nat.reduceLeDiff, Int.reduceLE, Int.reduceLT, Int.reduceAbs, Int.natAbs_neg, Nat.reduceLT, divW_eq, mulW_eq, Bool.or_true, Bool.true_or, cut_map, ← List.map_append, ← List.map_reverse, castN, eq_self, Int.reduceEq, deqC, deq_self, rep_map, nls_dP, wsAugIx, tx_cps, tx_len, tx_app, tx_one, tx_nil, tx_cut, tx_signs, tx_rep, lit_empty, tx_inj, wJoin, gJoin, wmCall, wmOpL, wmOpR, wmIxR, wmTup2, wsSetM, wsAppM, wForM, gSum, gAny, gAll, gLtD, gInT, gSorted, gAddT, wThaw, gMaxL, wIsE, wIsV, wCallE, wTry, DEnds.off, gInB, wDct0, wCntB, wIdxB, wTryF, gEqO, gInI, gIns, gTup, wDct1, gEqR, wFld, wsSetFld, wsAddFld, isO_rfl, wMeth, wMethF, wMethN, wmMeth, wsExprM, wsRetM, wmOne, wmCons, wMake, wmMake, wsSetMk, gToIntS, endsO, endO, startO, List.getElem?_cons_succ, wTryM, wIsO, rC, lt_lp, lt_rp, lt_lb, lt_rb, lt_cm, lt_mi, lt_0, lt_dg, ts_nt, gStr, wsSetV]
    simp only [tD] at rest ⊢
    walk_at "s"
    exact rest
end NL

namespace NL
open PySem PySem.Spec L2
open PyProof.Rows hiding St
local macro_rules | `(tactic| walk_at "s") => `(tactic| try simp only [wVar, wOwn, wC, wOp, onBl, wtOn, wChain, trD, wtVal, wtNot, wAnd, wOr, wAndV, wOrV, wNotV, wIf, wNil, wCons, wTup, wLst, wUn, wNew, gAdd, gInt, gInt0, gMul, gCatF, gRepF, wOpF, gEq, gCmp, gInS, gIsN, isN, gIsB, gIdx, woNone, woSome, gSl, wSl, gSlF, wSlF, wB, wBF, gLen, gInt1, gInt2, gToInt, gListF, tyName, gIsT, wIsT, wCall, Rt.d, Cn.d, onNew, wCallF, wCallN, wCallNF, nlR, wgName, wgNil, wgCons, wgTup, wSeq, wSeqT, wSigns, wRng1, wRng2, wRng3, wRev, wEnum, wZip, wLc, wtYes, wsNil, wsBrk, wsCnt, wsExpr, wsRet, wsRetF, wsRetOwn, wsRetN, wIfS, wsSet, wsSetF, wsAsg, wsPar, wsAug, gApp, gExt, gPop0, gRev, wMut, wsSetIx, wFor, wsRaise, wSeqS, wFrz, wsCallM, wsPopAdd, endsOf, endM, endsM, startM, startE, wipeE, smallI, CPow, Br_true, Br_false, Br_not, rngD_eq, dC, dP, dI, ex_atI_map, atI0, atI1, atI2, kit1, kit2, kit3, kit4, kit5, kit6, kit7, kit8, kit9, kit10, kit11, kit12, kit13, kit14, kit15, kit16, kit17, kit18, kit19, kit20, kit21, kit22, kit23, kit24, kit25, kit26, kit27, kit28, kit29, kit30, kit31, kit32, kit33, kit34, kit35, sizeLine_eq, true_and, and_true, exists_eq_left', Option.some.injEq, List.map_cons, List.map_nil, List.length_cons, List.length_nil, List.length_map, List.length_append, List.cons_append, List.nil_append, List.set_cons_zero, List.set_cons_succ, List.getElem?_cons_zero, List.getElem?_cons_succ, List.getElem?_nil, Nat.reduceSub, Nat.reduceAdd, Nat.zero_add, Nat.sub_self, List.replicate_succ, List.replicate_zero, Bool.false_bne, Bool.true_bne, Bool.false_xor, Bool.true_xor, Bool.not_true, Bool.not_false, Bool.not_not, beq_self_eq_true, Bool.and_true, Bool.true_and, nl, nls, decide_true, decide_false, exists_eq_left, Bool.false_eq_true, Option.some_inj, Int.reduceToNat, Int.reducePow, Int.reduceMul, Int.reduceSub, Int.reduceAdd, Int.reduceNeg, Nat.reducePow, Nat.reduceLeDiff, Int.reduceLE, Int.reduceLT, Int.reduceAbs, Int.natAbs_neg, Nat.reduceLT, divW_eq, mulW_eq, Bool.or_true, Bool.true_or, cut_map, ← List.map_append, ← List.map_reverse, castN, eq_self, Int.reduceEq, deqC, deq_self, rep_map, nls_dP, wsAugIx, tx_cps, tx_len, tx_app, tx_one, tx_nil, tx_cut, tx_signs, tx_rep, lit_empty, tx_inj, wJoin, gJoin, wmCall, wmOpL, wmOpR, wmIxR, wmTup2, wsSetM, wsAppM, wForM, gSum, gAny, gAll, gLtD, gInT, gSorted, gAddT, wThaw, gMaxL, wIsE, wIsV, wCallE, wTry, DEnds.off, gInB, wDct0, wCntB, wIdxB, wTryF, gEqO, gInI, gIns, gTup, wDct1, gEqR, wFld, wsSetFld, wsAddFld, isO_rfl, wMeth, wMethF, wMethN, wmMeth, wsExprM, wsRetM, wmOne, wmCons, wMake, wmMake, wsSetMk, gToIntS, endsO, endO, startO, List.getElem?_cons_succ, wTryM, wIsO, rC, lt_lp, lt_rp, lt_lb, lt_rb, lt_cm, lt_mi, lt_0, lt_dg, ts_nt, gStr, wsSetV])
--@ law
def W_law_5_0 : WS :=
  (wSeqS (wsSet 5 (wOp gIdx (wNew (wLst (wCons (wC .non) (wCons (wC (.int 0)) (wCons (wC (.bl true)) (wCons (wNew (wLst (wCons (wVar 1) wNil))) (wCons (wTup (wCons (wC (.str "a")) (wCons (wC (.int 1)) wNil))) (wCons wDct0 wNil)))))))) (wOp (gInt (fun _ j => 0 < j) fun i j => i % j) (wCall SP_law_at (wCons (wVar 0) (wCons (wC (.int 3)) wNil))) (wC (.int 6)))))
  (wIfS (wtOn (wOp (gIsN true) (wCall SP_law_said (wCons (wVar 5) wNil)) (wC .non)))
  (wsRet (wC (.bl false)))
  wsNil))
def W_law_5 : WS :=
  (wSeqS (wIfS (wtOn (wOp (gEq false) (wVar 2) (wC (.int 7))))
  W_law_5_0
  wsNil)
  (wsRet (wCall SP_law_same (wCons (wVar 1) wNil))))
def W_law_4 : WS :=
  (wSeqS (wFor (wRng1 (wC (.int 2))) (wgName 4)
  (wIfS (wOr (wtNot (wtVal (wCall SP_law_same (wCons (wVar 1) wNil)))) (wtNot (wtVal (wCall SP_law_same (wCons (wVar 3) wNil)))))
  (wsRet (wC (.bl false)))
  wsNil))
  W_law_5)
def W_law_2 : WS :=
  (wSeqS (wsSet 2 (wOp (gInt (fun _ j => 0 < j) fun i j => i % j) (wCall SP_law_at (wCons (wVar 0) (wCons (wC (.int 2)) wNil))) (wC (.int 8))))
  (wSeqS (wsSet 3 (wCall SP_law_spoiled (wCons (wVar 1) (wCons (wVar 2) (wCons (wCall SP_law_at (wCons (wVar 0) (wCons (wC (.int 3)) wNil))) (wCons (wCall SP_law_at (wCons (wVar 0) (wCons (wC (.int 4)) wNil))) wNil))))))
  W_law_4))
def W_law : WS :=
  (wSeqS (wsSet 1 (wCall (SP_law_words 10) (wCons (wCall SP_law_at (wCons (wVar 0) (wCons (wC (.int 0)) wNil))) (wCons (wC (.int 3)) (wCons (wC (.int 1)) wNil)))))
  (wSeqS (wIfS (wtOn (wOp (gEq false) (wOp (gInt (fun _ j => 0 < j) fun i j => i % j) (wCall SP_law_at (wCons (wVar 0) (wCons (wC (.int 1)) wNil))) (wC (.int 3))) (wC (.int 1))))
  (wsSet 1 (wCall SP_law_within (wCons (wVar 1) (wCons (wOp gAdd (wC (.int 26)) (wOp (gInt (fun _ j => 0 < j) fun i j => i % j) (wOp (gInt CDivW fun i j => i / j) (wCall SP_law_at (wCons (wVar 0) (wCons (wC (.int 1)) wNil))) (wC (.int 3))) (wC (.int 6)))) (wCons (wOp (gInt CDivW fun i j => i / j) (wCall SP_law_at (wCons (wVar 0) (wCons (wC (.int 1)) wNil))) (wC (.int 18))) wNil)))))
  wsNil)
  W_law_2))
theorem things_at {s : List Nat} {i : Int} (h0 : 0 ≤ i) (h1 : i < 6) : ∃ d, atI [D.non, D.int 0, D.bl true, D.lst [.str (tx s)], D.tup [.str (Str.ofString "a"), .int 1], D.dct [] []] i = some d ∧ (d = .non ∨ (∃ i, d = .int i) ∨ (∃ b, d = .bl b) ∨ (∃ xs, d = .lst xs) ∨ (∃ xs, d = .tup xs) ∨ ∃ ks xs, d = .dct ks xs) := by
  obtain ⟨d, hd, hm⟩ := atI_in (xs := [D.non, D.int 0, D.bl true, D.lst [.str (tx s)], D.tup [.str (Str.ofString "a"), .int 1], D.dct [] []]) h0 h1
  refine ⟨d, hd, ?_⟩
  simp only [List.mem_cons, List.not_mem_nil, or_false] at hm
  rcases hm with rfl | rfl | rfl | rfl | rfl | rfl
  · exact .inl rfl
  · exact .inr (.inl ⟨_, rfl⟩)
  · exact .inr (.inr (.inl ⟨_, rfl⟩))
  · exact .inr (.inr (.inr (.inl ⟨_, rfl⟩)))
  · exact .inr (.inr (.inr (.inr (.inl ⟨_, rfl⟩))))
  · exact .inr (.inr (.inr (.inr (.inr ⟨_, _, rfl⟩))))
theorem law_50 {q : DEnds} {ns : List Int} {s : List Nat} {d2 : D} {s3 s4 : Sl} (h : ∀ s5, q.nx [.fz (.scr ns), .fz (.str (tx s)), .fz d2, s3, s4, s5]) :
    W_law_5_0 q [.fz (.scr ns), .fz (.str (tx s)), .fz d2, s3, s4, .un] := by
  simp only [W_law_5_0, wVar, wOwn, wC, wOp, onBl, wtOn, wChain, trD, wtVal, wtNot, wAnd, wOr, wAndV, wOrV, wNotV, wIf, wNil, wCons, wTup, wLst, wUn, wNew, gAdd, gInt, gInt0, gMul, gCatF, gRepF, wOpF, gEq, gCmp, gInS, gIsN, isN, gIsB, gIdx, woNone, woSome, gSl, wSl, gSlF, wSlF, wB, wBF, gLen, gInt1, gInt2, gToInt, gListF, tyName, gIsT, wIsT, wCall, Rt.d, Cn.d, onNew, wCallF, wCallN, wCallNF, nlR, wgName, wgNil, wgCons, wgTup, wSeq, wSeqT, wSigns, wRng1, wRng2, wRng3, wRev, wEnum, wZip, wLc, wtYes, wsNil, wsBrk, wsCnt, wsExpr, wsRet, wsRetF, wsRetOwn, wsRetN, wIfS, wsSet, wsSetF, wsAsg, wsPar, wsAug, gApp, gExt, gPop0, gRev, wMut, wsSetIx, wFor, wsRaise, wSeqS, wFrz, wsCallM, wsPopAdd, endsOf, endM, endsM, startM, startE, wipeE, smallI, CPow, Br_true, Br_false, Br_not, rngD_eq, dC, dP, dI, ex_atI_map, atI0, atI1, atI2, kit1, kit2, kit3, kit4, kit5, kit6, kit7, kit8, kit9, kit10, kit11, kit12, kit13, kit14, kit15, kit16, kit17, kit18, kit19, kit20, kit21, kit22, kit23, kit24, kit25, kit26, kit27, kit28, kit29, kit30, kit31, kit32, kit33, kit34, kit35, sizeLine_eq, true_and, and_true, exists_eq_left', Option.some.injEq, List.map_cons, List.map_nil, List.length_cons, List.length_nil, List.length_map, List.length_append, List.cons_append, List.nil_append, List.set_cons_zero, List.set_cons_succ, List.getElem?_cons_zero, List.getElem?_cons_succ, List.getElem?_nil, Nat.reduceSub, Nat.reduceAdd, Nat.zero_add, Nat.sub_self, List.replicate_succ, List.replicate_zero, Bool.false_bne, Bool.true_bne, Bool.false_xor, Bool.true_xor, Bool.not_true, Bool.not_false, Bool.not_not, beq_self_eq_true, Bool.and_true, Bool.true_and, nl, nls, decide_true, decide_false, exists_eq_left, Bool.false_eq_true, Option.some_inj, Int.reduceToNat, Int.reducePow, Int.reduceMul, Int.reduceSub, Int.reduceAdd, Int.reduceNeg, Nat.reducePow, Nat.reduceLeDiff, Int.reduceLE, Int.reduceLT, Int.reduceAbs, Int.natAbs_neg, Nat.reduceLT, divW_eq, mulW_eq, Bool.or_true, Bool.true_or, cut_map, ← List.map_append, ← List.map_reverse, castN, eq_self, Int.reduceEq, deqC, deq_self, rep_map, nls_dP, wsAugIx, tx_cps, tx_len, tx_app, tx_one, tx_nil, tx_cut, tx_signs, tx_rep, lit_empty, tx_inj, wJoin, gJoin, wmCall, wmOpL, wmOpR, wmIxR, wmTup2, wsSetM, wsAppM, wForM, gSum, gAny, gAll, gLtD, gInT, gSorted, gAddT, wThaw, gMaxL, wIsE, wIsV, wCallE, wTry, DEnds.off, gInB, wDct0, wCntB, wIdxB, wTryF, gEqO, gInI, gIns, gTup, wDct1, gEqR, wFld, wsSetFld, wsAddFld, isO_rfl, wMeth, wMethF, wMethN, wmMeth, wsExprM, wsRetM, wmOne, wmCons, wMake, wmMake, wsSetMk, gToIntS, endsO, endO, startO, List.getElem?_cons_succ, wTryM, wIsO, rC, lt_lp, lt_rp, lt_lb, lt_rb, lt_cm, lt_mi, lt_0, lt_dg, ts_nt, gStr, wsSetV]
  refine ⟨ns, 3, rfl, by omega, ?_⟩
  walk_at "s"
  obtain ⟨d, hd, hk⟩ := things_at (s := s) (i := ns.getD 3 0 % 6) (by omega) (by omega)
  refine ⟨d, hd, .inr ⟨d, rfl, hk, ?_⟩⟩
  walk_at "s"
  exact h _
theorem law_2 {ns : List Int} {s : List Nat} {x : XS} {R : Rt → Prop} (hs : s.length ≤ 5000) (q : R (.val (.bl true))) :
    W_law_2 { nx := fun _ => R (.val .non), rt := fun r _ => R r, ex := x } [.fz (.scr ns), .fz (.str (tx s)), .un, .un, .un, .un] := by
  simp only [W_law_2, wVar, wOwn, wC, wOp, onBl, wtOn, wChain, trD, wtVal, wtNot, wAnd, wOr, wAndV, wOrV, wNotV, wIf, wNil, wCons, wTup, wLst, wUn, wNew, gAdd, gInt, gInt0, gMul, gCatF, gRepF, wOpF, gEq, gCmp, gInS, gIsN, isN, gIsB, gIdx, woNone, woSome, gSl, wSl, gSlF, wSlF, wB, wBF, gLen, gInt1, gInt2, gToInt, gListF, tyName, gIsT, wIsT, wCall, Rt.d, Cn.d, onNew, wCallF, wCallN, wCallNF, nlR, wgName, wgNil, wgCons, wgTup, wSeq, wSeqT, wSigns, wRng1, wRng2, wRng3, wRev, wEnum, wZip, wLc, wtYes, wsNil, wsBrk, wsCnt, wsExpr, wsRet, wsRetF, wsRetOwn, wsRetN, wIfS, wsSet, wsSetF, wsAsg, wsPar, wsAug, gApp, gExt, gPop0, gRev, wMut, wsSetIx, wFor, wsRaise, wSeqS, wFrz, wsCallM, wsPopAdd, endsOf, endM, endsM, startM, startE, wipeE, smallI, CPow, Br_true, Br_false, Br_not, rngD_eq, dC, dP, dI, ex_atI_map, atI0, atI1, atI2, kit1, kit2, kit3, kit4, kit5, kit6, kit7, kit8, kit9, kit10, kit11, kit12, kit13, kit14, kit15, kit16, kit17, kit18, kit19, kit20, kit21, kit22, kit23, kit24, kit25, kit26, kit27, kit28, kit29, kit30, kit31, kit32, kit33, kit34, kit35, sizeLine_eq, true_and, and_true, exists_eq_left', Option.some.injEq, List.map_cons, List.map_nil, List.length_cons, List.length_nil, List.length_map, List.length_append, List.cons_append, List.nil_append, List.set_cons_zero, List.set_cons_succ, List.getElem?_cons_zero, List.getElem?_cons_succ, List.getElem?_nil, Nat.reduceSub, Nat.reduceAdd, Nat.zero_add, Nat.sub_self, List.replicate_succ, List.replicate_zero, Bool.false_bne, Bool.true_bne, Bool.false_xor, Bool.true_xor, Bool.not_true, Bool.not_false, Bool.not_not, beq_self_eq_true, Bool.and_true, Bool.true_and, nl, nls, decide_true, decide_false, exists_eq_left, Bool.false_eq_true, Option.some_inj, Int.reduceToNat, Int.reducePow, Int.reduceMul, Int.reduceSub, Int.reduceAdd, Int.reduceNeg, Nat.reducePow, Nat.reduceLeDiff, Int.reduceLE, Int.reduceLT, Int.reduceAbs, Int.natAbs_neg, Nat.reduceLT, divW_eq, mulW_eq, Bool.or_true, Bool.true_or, cut_map, ← List.map_append, ← List.map_reverse, castN, eq_self, Int.reduceEq, deqC, deq_self, rep_map, nls_dP, wsAugIx, tx_cps, tx_len, tx_app, tx_one, tx_nil, tx_cut, tx_signs, tx_rep, lit_empty, tx_inj, wJoin, gJoin, wmCall, wmOpL, wmOpR, wmIxR, wmTup2, wsSetM, wsAppM, wForM, gSum, gAny, gAll, gLtD, gInT, gSorted, gAddT, wThaw, gMaxL, wIsE, wIsV, wCallE, wTry, DEnds.off, gInB, wDct0, wCntB, wIdxB, wTryF, gEqO, gInI, gIns, gTup, wDct1, gEqR, wFld, wsSetFld, wsAddFld, isO_rfl, wMeth, wMethF, wMethN, wmMeth, wsExprM, wsRetM, wmOne, wmCons, wMake, wmMake, wsSetMk, gToIntS, endsO, endO, startO, List.getElem?_cons_succ, wTryM, wIsO, rC, lt_lp, lt_rp, lt_lb, lt_rb, lt_cm, lt_mi, lt_0, lt_dg, ts_nt, gStr, wsSetV]
  refine ⟨ns, 2, rfl, by omega, ?_⟩
  walk_at "s"
  refine ⟨ns, 3, rfl, by omega, ?_⟩
  walk_at "s"
  refine ⟨ns, 4, rfl, by omega, ?_⟩
  walk_at "s"
  refine ⟨s, _, _, _, rfl, by omega, fun z hz => ?_⟩
  walk_at "s"
  generalize ns.getD 2 0 % 8 = way
  simp only [W_law_4, wVar, wOwn, wC, wOp, onBl, wtOn, wChain, trD, wtVal, wtNot, wAnd, wOr, wAndV, wOrV, wNotV, wIf, wNil, wCons, wTup, wLst, wUn, wNew, gAdd, gInt, gInt0, gMul, gCatF, gRepF, wOpF, gEq, gCmp, gInS, gIsN, isN, gIsB, gIdx, woNone, woSome, gSl, wSl, gSlF, wSlF, wB, wBF, gLen, gInt1, gInt2, gToInt, gListF, tyName, gIsT, wIsT, wCall, Rt.d, Cn.d, onNew, wCallF, wCallN, wCallNF, nlR, wgName, wgNil, wgCons, wgTup, wSeq, wSeqT, wSigns, wRng1, wRng2, wRng3, wRev, wEnum, wZip, wLc, wtYes, wsNil, wsBrk, wsCnt, wsExpr, wsRet, wsRetF, wsRetOwn, wsRetN, wIfS, wsSet, wsSetF, wsAsg, wsPar, wsAug, gApp, gExt, gPop0, gRev, wMut, wsSetIx, wFor, wsRaise, wSeqS, wFrz, wsCallM, wsPopAdd, endsOf, endM, endsM, startM, startE, wipeE, smallI, CPow, Br_true, Br_false, Br_not, rngD_eq, dC, dP, dI, ex_atI_map, atI0, atI1, atI2, kit1, kit2, kit3, kit4, kit5, kit6, kit7, kit8, kit9, kit10, kit11, kit12, kit13, kit14, kit15, kit16, kit17, kit18, kit19, kit20, kit21, kit22, kit23, kit24, kit25, kit26, kit27, kit28, kit29, kit30, kit31, kit32, kit33, kit34, kit35, sizeLine_eq, true_and, and_true, exists_eq_left', Option.some.injEq, List.map_cons, List.map_nil, List.length_cons, List.length_nil, List.length_map, List.length_append, List.cons_append, List.nil_append, List.set_cons_zero, List.set_cons_succ, List.getElem?_cons_zero, List.getElem?_cons_succ, List.getElem?_nil, Nat.reduceSub, Nat.reduceAdd, Nat.zero_add, Nat.sub_self, List.replicate_succ, List.replicate_zero, Bool.false_bne, Bool.true_bne, Bool.false_xor, Bool.true_xor, Bool.not_true, Bool.not_false, Bool.not_not, beq_self_eq_true, Bool.and_true, Bool.true_and, nl, nls, decide_true, decide_false, exists_eq_left, Bool.false_eq_true, Option.some_inj, Int.reduceToNat, Int.reducePow, Int.reduceMul, Int.reduceSub, Int.reduceAdd, Int.reduceNeg, Nat.reducePow, Nat.reduceLeDiff, Int.reduceLE, Int.reduceLT, Int.reduceAbs, Int.natAbs_neg, Nat.reduceLT, divW_eq, mulW_eq, Bool.or_true, Bool.true_or, cut_map, ← List.map_append, ← List.map_reverse, castN, eq_self, Int.reduceEq, deqC, deq_self, rep_map, nls_dP, wsAugIx, tx_cps, tx_len, tx_app, tx_one, tx_nil, tx_cut, tx_signs, tx_rep, lit_empty, tx_inj, wJoin, gJoin, wmCall, wmOpL, wmOpR, wmIxR, wmTup2, wsSetM, wsAppM, wForM, gSum, gAny, gAll, gLtD, gInT, gSorted, gAddT, wThaw, gMaxL, wIsE, wIsV, wCallE, wTry, DEnds.off, gInB, wDct0, wCntB, wIdxB, wTryF, gEqO, gInI, gIns, gTup, wDct1, gEqR, wFld, wsSetFld, wsAddFld, isO_rfl, wMeth, wMethF, wMethN, wmMeth, wsExprM, wsRetM, wmOne, wmCons, wMake, wmMake, wsSetMk, gToIntS, endsO, endO, startO, List.getElem?_cons_succ, wTryM, wIsO, rC, lt_lp, lt_rp, lt_lb, lt_rb, lt_cm, lt_mi, lt_0, lt_dg, ts_nt, gStr, wsSetV]
  refine loop_ind (S := Sl) D.int (fun v => [.fz (.scr ns), .fz (.str (tx s)), .fz (.int way), .fz (.str (tx z)), v, .un])
    (fun _ _ => True) ?_ ?_ _ .un trivial
  · rintro v _
    simp only [W_law_5, wVar, wOwn, wC, wOp, onBl, wtOn, wChain, trD, wtVal, wtNot, wAnd, wOr, wAndV, wOrV, wNotV, wIf, wNil, wCons, wTup, wLst, wUn, wNew, gAdd, gInt, gInt0, gMul, gCatF, gRepF, wOpF, gEq, gCmp, gInS, gIsN, isN, gIsB, gIdx, woNone, woSome, gSl, wSl, gSlF, wSlF, wB, wBF, gLen, gInt1, gInt2, gToInt, gListF, tyName, gIsT, wIsT, wCall, Rt.d, Cn.d, onNew, wCallF, wCallN, wCallNF, nlR, wgName, wgNil, wgCons, wgTup, wSeq, wSeqT, wSigns, wRng1, wRng2, wRng3, wRev, wEnum, wZip, wLc, wtYes, wsNil, wsBrk, wsCnt, wsExpr, wsRet, wsRetF, wsRetOwn, wsRetN, wIfS, wsSet, wsSetF, wsAsg, wsPar, wsAug, gApp, gExt, gPop0, gRev, wMut, wsSetIx, wFor, wsRaise, wSeqS, wFrz, wsCallM, wsPopAdd, endsOf, endM, endsM, startM, startE, wipeE, smallI, CPow, Br_true, Br_false, Br_not, rngD_eq, dC, dP, dI, ex_atI_map, atI0, atI1, atI2, kit1, kit2, kit3, kit4, kit5, kit6, kit7, kit8, kit9, kit10, kit11, kit12, kit13, kit14, kit15, kit16, kit17, kit18, kit19, kit20, kit21, kit22, kit23, kit24, kit25, kit26, kit27, kit28, kit29, kit30, kit31, kit32, kit33, kit34, kit35, sizeLine_eq, true_and, and_true, exists_eq_left', Option.some.injEq, List.map_cons, List.map_nil, List.length_cons, List.length_nil, List.length_map, List.length_append, List.cons_append, List.nil_append, List.set_cons_zero, List.set_cons_succ, List.getElem?_cons_zero, List.getElem?_cons_succ, List.getElem?_nil, Nat.reduceSub, Nat.reduceAdd, Nat.zero_add, Nat.sub_self, List.replicate_succ, List.replicate_zero, Bool.false_bne, Bool.true_bne, Bool.false_xor, Bool.true_xor, Bool.not_true, Bool.not_false, Bool.not_not, beq_self_eq_true, Bool.and_true, Bool.true_and, nl, nls, decide_true, decide_false, exists_eq_left, Bool.false_eq_true, Option.some_inj, Int.reduceToNat, Int.reducePow, Int.reduceMul, Int.reduceSub, Int.reduceAdd, Int.reduceNeg, Nat.reducePow, Nat.reduceLeDiff, Int.reduceLE, Int.reduceLT, Int.reduceAbs, Int.natAbs_neg, Nat.reduceLT, divW_eq, mulW_eq, Bool.or_true, Bool.true_or, cut_map, ← List.map_append, ← List.map_reverse, castN, eq_self, Int.reduceEq, deqC, deq_self, rep_map, nls_dP, wsAugIx, tx_cps, tx_len, tx_app, tx_one, tx_nil, tx_cut, tx_signs, tx_rep, lit_empty, tx_inj, wJoin, gJoin, wmCall, wmOpL, wmOpR, wmIxR, wmTup2, wsSetM, wsAppM, wForM, gSum, gAny, gAll, gLtD, gInT, gSorted, gAddT, wThaw, gMaxL, wIsE, wIsV, wCallE, wTry, DEnds.off, gInB, wDct0, wCntB, wIdxB, wTryF, gEqO, gInI, gIns, gTup, wDct1, gEqR, wFld, wsSetFld, wsAddFld, isO_rfl, wMeth, wMethF, wMethN, wmMeth, wsExprM, wsRetM, wmOne, wmCons, wMake, wmMake, wsSetMk, gToIntS, endsO, endO, startO, List.getElem?_cons_succ, wTryM, wIsO, rC, lt_lp, lt_rp, lt_lb, lt_rb, lt_cm, lt_mi, lt_0, lt_dg, ts_nt, gStr, wsSetV]
    have fin : ∀ s5 : Sl, SP_law_same [.str (tx s)] x fun r => R (.val r.d) := fun _ => ⟨s, rfl, by omega, q⟩
    refine Br.d (fun _ => ?_) (fun _ => fin .un)
    exact law_50 fun s5 => fin s5
  · rintro k r v L _ ih
    walk_at "s"
    refine ⟨s, rfl, by omega, ?_⟩
    walk_at "s"
    refine ⟨z, rfl, by omega, ?_⟩
    walk_at "s"
    exact ih _ trivial
theorem pure_law (ds : List D) (x : XS) (R : Rt → Prop) (h : SP_law ds x R) : W_law (endsOf R x) (startE 6 ds) := by
  obtain ⟨ns, rfl, hn, q⟩ := h
  simp only [W_law, wVar, wOwn, wC, wOp, onBl, wtOn, wChain, trD, wtVal, wtNot, wAnd, wOr, wAndV, wOrV, wNotV, wIf, wNil, wCons, wTup, wLst, wUn, wNew, gAdd, gInt, gInt0, gMul, gCatF, gRepF, wOpF, gEq, gCmp, gInS, gIsN, isN, gIsB, gIdx, woNone, woSome, gSl, wSl, gSlF, wSlF, wB, wBF, gLen, gInt1, gInt2, gToInt, gListF, tyName, gIsT, wIsT, wCall, Rt.d, Cn.d, onNew, wCallF, wCallN, wCallNF, nlR, wgName, wgNil, wgCons, wgTup, wSeq, wSeqT, wSigns, wRng1, wRng2, wRng3, wRev, wEnum, wZip, wLc, wtYes, wsNil, wsBrk, wsCnt, wsExpr, wsRet, wsRetF, wsRetOwn, wsRetN, wIfS, wsSet, wsSetF, wsAsg, wsPar, wsAug, gApp, gExt, gPop0, gRev, wMut, wsSetIx, wFor, wsRaise, wSeqS, wFrz, wsCallM, wsPopAdd, endsOf, endM, endsM, startM, startE, wipeE, smallI, CPow, Br_true, Br_false, Br_not, rngD_eq, dC, dP, dI, ex_atI_map, atI0, atI1, atI2, kit1, kit2, kit3, kit4, kit5, kit6, kit7, kit8, kit9, kit10, kit11, kit12, kit13, kit14, kit15, kit16, kit17, kit18, kit19, kit20, kit21, kit22, kit23, kit24, kit25, kit26, kit27, kit28, kit29, kit30, kit31, kit32, kit33, kit34, kit35, sizeLine_eq, true_and, and_true, exists_eq_left', Option.some.injEq, List.map_cons, List.map_nil, List.length_cons, List.length_nil, List.length_map, List.length_append, List.cons_append, List.nil_append, List.set_cons_zero, List.set_cons_succ, List.getElem?_cons_zero, List.getElem?_cons_succ, List.getElem?_nil, Nat.reduceSub, Nat.reduceAdd, Nat.zero_add, Nat.sub_self, List.replicate_succ, List.replicate_zero, Bool.false_bne, Bool.true_bne, Bool.false_xor, Bool.true_xor, Bool.not_true, Bool.not_false, Bool.not_not, beq_self_eq_true, Bool.and_true, Bool.true_and, nl, nls, decide_true, decide_false, exists_eq_left, Bool.false_eq_true, Option.some_inj, Int.reduceToNat, Int.reducePow, Int.reduceMul, Int.reduceSub, Int.reduceAdd, Int.reduceNeg, Nat.reducePow, Nat.reduceLeDiff, Int.reduceLE, Int.reduceLT, Int.reduceAbs, Int.natAbs_neg, Nat.reduceLT, divW_eq, mulW_eq, Bool.or_true, Bool.true_or, cut_map, ← List.map_append, ← List.map_reverse, castN, eq_self, Int.reduceEq, deqC, deq_self, rep_map, nls_dP, wsAugIx, tx_cps, tx_len, tx_app, tx_one, tx_nil, tx_cut, tx_signs, tx_rep, lit_empty, tx_inj, wJoin, gJoin, wmCall, wmOpL, wmOpR, wmIxR, wmTup2, wsSetM, wsAppM, wForM, gSum, gAny, gAll, gLtD, gInT, gSorted, gAddT, wThaw, gMaxL, wIsE, wIsV, wCallE, wTry, DEnds.off, gInB, wDct0, wCntB, wIdxB, wTryF, gEqO, gInI, gIns, gTup, wDct1, gEqR, wFld, wsSetFld, wsAddFld, isO_rfl, wMeth, wMethF, wMethN, wmMeth, wsExprM, wsRetM, wmOne, wmCons, wMake, wmMake, wsSetMk, gToIntS, endsO, endO, startO, List.getElem?_cons_succ, wTryM, wIsO, rC, lt_lp, lt_rp, lt_lb, lt_rb, lt_cm, lt_mi, lt_0, lt_dg, ts_nt, gStr, wsSetV]
  refine ⟨ns, 0, rfl, by omega, ?_⟩
  walk_at "s"
  refine ⟨ns.getD 0 0, 1, 3, rfl, by omega, by omega, by omega, by decide, fun s hs => ?_⟩
  have hs : s.length ≤ 3816 := hs
  walk_at "s"
  refine ⟨ns, 1, rfl, by omega, ?_⟩
  walk_at "s"
  refine Br.d (fun h => ?_) (fun h => law_2 (by omega) q)
  walk_at "s"
  refine ⟨ns, 1, rfl, by omega, ?_⟩
  walk_at "s"
  refine ⟨ns, 1, rfl, by omega, ?_⟩
  walk_at "s"
  refine ⟨s, _, _, rfl, by omega, by omega, by omega, fun z hz => ?_⟩
  walk_at "s"
  exact law_2 (by omega) q
end NL

namespace NL
open PySem PySem.Spec L2
open PyProof.Rows hiding St

def topS (i : Nat) : Stmt := PySem.Challenge.pw_nailhang_k63_no_text.main.body.getD i (.Pass ⟨0, 0, 0, 0⟩)
abbrev s_law_mix : Stmt := topS 31
abbrev N_law_mix : List Str := ["_law_cell", "_law_k", "_law_value"]
theorem sc_law_mix : FnScope N_law_mix ["_law_cell", "_law_k"] (defScope s_law_mix) := ⟨rfl, rfl, rfl, by decide +kernel, rfl, by decide +kernel, by decide +kernel⟩
abbrev s_law_words : Stmt := topS 40
abbrev N_law_words : List Str := ["_law_cell", "_law_deep", "_law_k", "_law_words_here", "_law_j", "_law_at_here", "_law_kind", "_law_mark", "_law_first"]
theorem sc_law_words : FnScope N_law_words ["_law_cell", "_law_deep", "_law_k"] (defScope s_law_words) := ⟨rfl, rfl, rfl, by decide +kernel, rfl, by decide +kernel, by decide +kernel⟩
abbrev s_law_at : Stmt := topS 30
abbrev N_law_at : List Str := ["_law_script", "_law_k"]
theorem sc_law_at : FnScope N_law_at ["_law_script", "_law_k"] (defScope s_law_at) := ⟨rfl, rfl, rfl, by decide +kernel, rfl, by decide +kernel, by decide +kernel⟩
abbrev s_law_within : Stmt := topS 41
abbrev N_law_within : List Str := ["_law_words_here", "_law_many", "_law_cell", "_law_k"]
theorem sc_law_within : FnScope N_law_within ["_law_words_here", "_law_many", "_law_cell"] (defScope s_law_within) := ⟨rfl, rfl, rfl, by decide +kernel, rfl, by decide +kernel, by decide +kernel⟩
abbrev s_law_any_sign : Stmt := topS 42
abbrev N_law_any_sign : List Str := ["_law_cell", "_law_some"]
theorem sc_law_any_sign : FnScope N_law_any_sign ["_law_cell"] (defScope s_law_any_sign) := ⟨rfl, rfl, rfl, by decide +kernel, rfl, by decide +kernel, by decide +kernel⟩
abbrev s_law_odd : Stmt := topS 43
abbrev N_law_odd : List Str := ["_law_cell", "_law_some"]
theorem sc_law_odd : FnScope N_law_odd ["_law_cell"] (defScope s_law_odd) := ⟨rfl, rfl, rfl, by decide +kernel, rfl, by decide +kernel, by decide +kernel⟩
abbrev s_law_spoiled : Stmt := topS 44
abbrev N_law_spoiled : List Str := ["_law_words_here", "_law_way", "_law_spot", "_law_cell", "_law_at_here"]
theorem sc_law_spoiled : FnScope N_law_spoiled ["_law_words_here", "_law_way", "_law_spot", "_law_cell"] (defScope s_law_spoiled) := ⟨rfl, rfl, rfl, by decide +kernel, rfl, by decide +kernel, by decide +kernel⟩
abbrev s_law_number : Stmt := topS 45
abbrev N_law_number : List Str := ["_law_words_here", "_law_at_here", "_law_end", "_law_begin", "_law_figures"]
theorem sc_law_number : FnScope N_law_number ["_law_words_here", "_law_at_here"] (defScope s_law_number) := ⟨rfl, rfl, rfl, by decide +kernel, rfl, by decide +kernel, by decide +kernel⟩
abbrev s_law_bracket : Stmt := topS 46
abbrev N_law_bracket : List Str := ["_law_words_here", "_law_at_here", "_law_deep", "_law_one", "_law_end", "_law_other", "_law_found"]
theorem sc_law_bracket : FnScope N_law_bracket ["_law_words_here", "_law_at_here", "_law_deep"] (defScope s_law_bracket) := ⟨rfl, rfl, rfl, by decide +kernel, rfl, by decide +kernel, by decide +kernel⟩
abbrev s_law_row : Stmt := topS 47
abbrev N_law_row : List Str := ["_law_words_here", "_law_at_here", "_law_deep", "_law_parts", "_law_found"]
theorem sc_law_row : FnScope N_law_row ["_law_words_here", "_law_at_here", "_law_deep"] (defScope s_law_row) := ⟨rfl, rfl, rfl, by decide +kernel, rfl, by decide +kernel, by decide +kernel⟩
abbrev s_law_read : Stmt := topS 48
abbrev N_law_read : List Str := ["_law_words_here", "_law_found"]
theorem sc_law_read : FnScope N_law_read ["_law_words_here"] (defScope s_law_read) := ⟨rfl, rfl, rfl, by decide +kernel, rfl, by decide +kernel, by decide +kernel⟩
abbrev s_Reader___init__ : Stmt := inClass (topS 27) 0
abbrev N_Reader___init__ : List Str := ["self", "signs"]
theorem sc_Reader___init__ : FnScope N_Reader___init__ ["self", "signs"] (defScope s_Reader___init__) := ⟨rfl, rfl, rfl, by decide +kernel, rfl, by decide +kernel, by decide +kernel⟩
abbrev s_Reader_sign : Stmt := inClass (topS 27) 1
abbrev N_Reader_sign : List Str := ["self"]
theorem sc_Reader_sign : FnScope N_Reader_sign ["self"] (defScope s_Reader_sign) := ⟨rfl, rfl, rfl, by decide +kernel, rfl, by decide +kernel, by decide +kernel⟩
abbrev s_Reader_want : Stmt := inClass (topS 27) 2
abbrev N_Reader_want : List Str := ["self", "sign"]
theorem sc_Reader_want : FnScope N_Reader_want ["self", "sign"] (defScope s_Reader_want) := ⟨rfl, rfl, rfl, by decide +kernel, rfl, by decide +kernel, by decide +kernel⟩
abbrev s_Piece___init__ : Stmt := inClass (topS 19) 0
abbrev N_Piece___init__ : List Str := ["self", "nail", "turns"]
theorem sc_Piece___init__ : FnScope N_Piece___init__ ["self", "nail", "turns"] (defScope s_Piece___init__) := ⟨rfl, rfl, rfl, by decide +kernel, rfl, by decide +kernel, by decide +kernel⟩
abbrev s_Reader_figures : Stmt := inClass (topS 27) 3
abbrev N_Reader_figures : List Str := ["self", "begin"]
theorem sc_Reader_figures : FnScope N_Reader_figures ["self"] (defScope s_Reader_figures) := ⟨rfl, rfl, rfl, by decide +kernel, rfl, by decide +kernel, by decide +kernel⟩
abbrev s_Reader_amount : Stmt := inClass (topS 27) 4
abbrev N_Reader_amount : List Str := ["self", "less", "figures"]
theorem sc_Reader_amount : FnScope N_Reader_amount ["self"] (defScope s_Reader_amount) := ⟨rfl, rfl, rfl, by decide +kernel, rfl, by decide +kernel, by decide +kernel⟩
abbrev s_Times___init__ : Stmt := inClass (topS 21) 0
abbrev N_Times___init__ : List Str := ["self", "body", "number"]
theorem sc_Times___init__ : FnScope N_Times___init__ ["self", "body", "number"] (defScope s_Times___init__) := ⟨rfl, rfl, rfl, by decide +kernel, rfl, by decide +kernel, by decide +kernel⟩
abbrev s_Back___init__ : Stmt := inClass (topS 22) 0
abbrev N_Back___init__ : List Str := ["self", "one", "other"]
theorem sc_Back___init__ : FnScope N_Back___init__ ["self", "one", "other"] (defScope s_Back___init__) := ⟨rfl, rfl, rfl, by decide +kernel, rfl, by decide +kernel, by decide +kernel⟩
abbrev s_Parts___init__ : Stmt := inClass (topS 20) 0
abbrev N_Parts___init__ : List Str := ["self", "parts"]
theorem sc_Parts___init__ : FnScope N_Parts___init__ ["self", "parts"] (defScope s_Parts___init__) := ⟨rfl, rfl, rfl, by decide +kernel, rfl, by decide +kernel, by decide +kernel⟩
abbrev s_Reader_part : Stmt := inClass (topS 27) 5
abbrev N_Reader_part : List Str := ["self", "deep", "sign", "one", "other", "body"]
theorem sc_Reader_part : FnScope N_Reader_part ["self", "deep"] (defScope s_Reader_part) := ⟨rfl, rfl, rfl, by decide +kernel, rfl, by decide +kernel, by decide +kernel⟩
abbrev s_Reader_row : Stmt := inClass (topS 27) 6
abbrev N_Reader_row : List Str := ["self", "deep", "found"]
theorem sc_Reader_row : FnScope N_Reader_row ["self", "deep"] (defScope s_Reader_row) := ⟨rfl, rfl, rfl, by decide +kernel, rfl, by decide +kernel, by decide +kernel⟩
abbrev s_read : Stmt := topS 28
abbrev N_read : List Str := ["text", "reader", "found"]
theorem sc_read : FnScope N_read ["text"] (defScope s_read) := ⟨rfl, rfl, rfl, by decide +kernel, rfl, by decide +kernel, by decide +kernel⟩
abbrev s_law_others : Stmt := topS 51
abbrev N_law_others : List Str := ["_law_e", "_law_some"]
theorem sc_law_others : FnScope N_law_others ["_law_e"] (defScope s_law_others) := ⟨rfl, rfl, rfl, by decide +kernel, rfl, by decide +kernel, by decide +kernel⟩
abbrev s_law_said : Stmt := topS 52
abbrev N_law_said : List Str := ["_law_thing", "_law_found", "_law_e"]
theorem sc_law_said : FnScope N_law_said ["_law_thing"] (defScope s_law_said) := ⟨rfl, rfl, rfl, by decide +kernel, rfl, by decide +kernel, by decide +kernel⟩
abbrev s_law_count : Stmt := topS 49
abbrev N_law_count : List Str := ["_law_parts", "_law_many", "_law_part"]
theorem sc_law_count : FnScope N_law_count ["_law_parts"] (defScope s_law_count) := ⟨rfl, rfl, rfl, by decide +kernel, rfl, by decide +kernel, by decide +kernel⟩
abbrev s_Piece_pieces : Stmt := inClass (topS 19) 1
abbrev N_Piece_pieces : List Str := ["self"]
theorem sc_Piece_pieces : FnScope N_Piece_pieces ["self"] (defScope s_Piece_pieces) := ⟨rfl, rfl, rfl, by decide +kernel, rfl, by decide +kernel, by decide +kernel⟩
abbrev s_Parts_pieces : Stmt := inClass (topS 20) 1
abbrev N_Parts_pieces : List Str := ["self", "part"]
theorem sc_Parts_pieces : FnScope N_Parts_pieces ["self"] (defScope s_Parts_pieces) := ⟨rfl, rfl, rfl, by decide +kernel, rfl, by decide +kernel, by decide +kernel⟩
abbrev s_Times_pieces : Stmt := inClass (topS 21) 1
abbrev N_Times_pieces : List Str := ["self"]
theorem sc_Times_pieces : FnScope N_Times_pieces ["self"] (defScope s_Times_pieces) := ⟨rfl, rfl, rfl, by decide +kernel, rfl, by decide +kernel, by decide +kernel⟩
abbrev s_Back_pieces : Stmt := inClass (topS 22) 1
abbrev N_Back_pieces : List Str := ["self"]
theorem sc_Back_pieces : FnScope N_Back_pieces ["self"] (defScope s_Back_pieces) := ⟨rfl, rfl, rfl, by decide +kernel, rfl, by decide +kernel, by decide +kernel⟩
abbrev s_law_right : Stmt := topS 38
abbrev N_law_right : List Str := ["_law_found", "_law_due", "_law_one", "_law_other"]
theorem sc_law_right : FnScope N_law_right ["_law_found", "_law_due"] (defScope s_law_right) := ⟨rfl, rfl, rfl, by decide +kernel, rfl, by decide +kernel, by decide +kernel⟩
abbrev s_law_contrary : Stmt := topS 36
abbrev N_law_contrary : List Str := ["_law_cord_here", "_law_nail", "_law_turns"]
theorem sc_law_contrary : FnScope N_law_contrary ["_law_cord_here"] (defScope s_law_contrary) := ⟨rfl, rfl, rfl, by decide +kernel, rfl, by decide +kernel, by decide +kernel⟩
abbrev s_law_laid : Stmt := topS 50
abbrev N_law_laid : List Str := ["_law_parts", "_law_cord_here", "_law_part", "_law_one", "_law_other", "_law_made"]
theorem sc_law_laid : FnScope N_law_laid ["_law_parts"] (defScope s_law_laid) := ⟨rfl, rfl, rfl, by decide +kernel, rfl, by decide +kernel, by decide +kernel⟩
abbrev s_contrary : Stmt := topS 14
abbrev N_contrary : List Str := ["cord", "nail", "turns"]
theorem sc_contrary : FnScope N_contrary ["cord"] (defScope s_contrary) := ⟨rfl, rfl, rfl, by decide +kernel, rfl, by decide +kernel, by decide +kernel⟩
abbrev s_Piece_laid : Stmt := inClass (topS 19) 2
abbrev N_Piece_laid : List Str := ["self"]
theorem sc_Piece_laid : FnScope N_Piece_laid ["self"] (defScope s_Piece_laid) := ⟨rfl, rfl, rfl, by decide +kernel, rfl, by decide +kernel, by decide +kernel⟩
abbrev s_Parts_laid : Stmt := inClass (topS 20) 2
abbrev N_Parts_laid : List Str := ["self", "found", "part"]
theorem sc_Parts_laid : FnScope N_Parts_laid ["self"] (defScope s_Parts_laid) := ⟨rfl, rfl, rfl, by decide +kernel, rfl, by decide +kernel, by decide +kernel⟩
abbrev s_Times_laid : Stmt := inClass (topS 21) 2
abbrev N_Times_laid : List Str := ["self", "found"]
theorem sc_Times_laid : FnScope N_Times_laid ["self"] (defScope s_Times_laid) := ⟨rfl, rfl, rfl, by decide +kernel, rfl, by decide +kernel, by decide +kernel⟩
abbrev s_Back_laid : Stmt := inClass (topS 22) 2
abbrev N_Back_laid : List Str := ["self", "first", "second"]
theorem sc_Back_laid : FnScope N_Back_laid ["self"] (defScope s_Back_laid) := ⟨rfl, rfl, rfl, by decide +kernel, rfl, by decide +kernel, by decide +kernel⟩
abbrev s_Term_cord : Stmt := inClass (topS 18) 3
abbrev N_Term_cord : List Str := ["self"]
theorem sc_Term_cord : FnScope N_Term_cord ["self"] (defScope s_Term_cord) := ⟨rfl, rfl, rfl, by decide +kernel, rfl, by decide +kernel, by decide +kernel⟩
abbrev s_law_same : Stmt := topS 53
abbrev N_law_same : List Str := ["_law_words_here", "_law_due", "_law_found", "_law_many"]
theorem sc_law_same : FnScope N_law_same ["_law_words_here"] (defScope s_law_same) := ⟨rfl, rfl, rfl, by decide +kernel, rfl, by decide +kernel, by decide +kernel⟩
abbrev s_law : Stmt := topS 54
abbrev N_law : List Str := ["_law_script", "_law_good", "_law_way", "_law_line", "_law_k", "_law_thing"]
theorem sc_law : FnScope N_law ["_law_script"] (defScope s_law) := ⟨rfl, rfl, rfl, by decide +kernel, rfl, by decide +kernel, by decide +kernel⟩
structure Txt (K : PySem.W.Frag) (mg : Str → Option Value) (fa : Nat → Addr) (fd : Nat → FuncData) (ca : Nat → Addr) (cc : Str → Addr) (ti : Nat → Addr) : Prop where
  m_ValueError : mg "ValueError" = none
  m_abs : mg "abs" = none
  m_bool : mg "bool" = none
  m_int : mg "int" = none
  m_isinstance : mg "isinstance" = none
  m_len : mg "len" = none
  m_list : mg "list" = none
  m_min : mg "min" = none
  m_range : mg "range" = none
  m_reversed : mg "reversed" = none
  m_str : mg "str" = none
  m_sum : mg "sum" = none
  m_tuple : mg "tuple" = none
  m_zip : mg "zip" = none
  c_DEEPEST : ∃ t, mg "DEEPEST" = some (.int 30 t)
  c_FIGURES : ∃ t, mg "FIGURES" = some (.str "0123456789" t)
  c_LETTERS : ∃ t, mg "LETTERS" = some (.str "abcdefghijklmnopqrstuvwxyz" t)
  c_MOST : ∃ t, mg "MOST" = some (.int 4000 t)
  c_MOST_FIGURES : ∃ t, mg "MOST_FIGURES" = some (.int 30 t)
  x_NoText : ExcC K mg "NoText" (ca 8)
  x_TooLong : ExcC K mg "TooLong" (ca 9)
  er : ErrT K mg CN AN
  ak : AskT K mg AN
  g_law_mix : mg "_law_mix" = some (.ref (fa 0))
  F_law_mix : Fun K "_law_mix" "_law_mix" s_law_mix (fa 0) (fd 0)
  b_law_mix : Binds K (fd 0) ["_law_cell", "_law_k"] []
  g_law_words : mg "_law_words" = some (.ref (fa 1))
  F_law_words : Fun K "_law_words" "_law_words" s_law_words (fa 1) (fd 1)
  b_law_words : Binds K (fd 1) ["_law_cell", "_law_deep", "_law_k"] []
  g_law_at : mg "_law_at" = some (.ref (fa 2))
  F_law_at : Fun K "_law_at" "_law_at" s_law_at (fa 2) (fd 2)
  b_law_at : Binds K (fd 2) ["_law_script", "_law_k"] []
  g_law_within : mg "_law_within" = some (.ref (fa 3))
  F_law_within : Fun K "_law_within" "_law_within" s_law_within (fa 3) (fd 3)
  b_law_within : Binds K (fd 3) ["_law_words_here", "_law_many", "_law_cell"] []
  g_law_any_sign : mg "_law_any_sign" = some (.ref (fa 4))
  F_law_any_sign : Fun K "_law_any_sign" "_law_any_sign" s_law_any_sign (fa 4) (fd 4)
  b_law_any_sign : Binds K (fd 4) ["_law_cell"] []
  g_law_odd : mg "_law_odd" = some (.ref (fa 5))
  F_law_odd : Fun K "_law_odd" "_law_odd" s_law_odd (fa 5) (fd 5)
  b_law_odd : Binds K (fd 5) ["_law_cell"] []
  g_law_spoiled : mg "_law_spoiled" = some (.ref (fa 6))
  F_law_spoiled : Fun K "_law_spoiled" "_law_spoiled" s_law_spoiled (fa 6) (fd 6)
  b_law_spoiled : Binds K (fd 6) ["_law_words_here", "_law_way", "_law_spot", "_law_cell"] []
  g_law_number : mg "_law_number" = some (.ref (fa 7))
  F_law_number : Fun K "_law_number" "_law_number" s_law_number (fa 7) (fd 7)
  b_law_number : Binds K (fd 7) ["_law_words_here", "_law_at_here"] []
  g_law_bracket : mg "_law_bracket" = some (.ref (fa 8))
  F_law_bracket : Fun K "_law_bracket" "_law_bracket" s_law_bracket (fa 8) (fd 8)
  b_law_bracket : Binds K (fd 8) ["_law_words_here", "_law_at_here", "_law_deep"] []
  g_law_row : mg "_law_row" = some (.ref (fa 9))
  F_law_row : Fun K "_law_row" "_law_row" s_law_row (fa 9) (fd 9)
  b_law_row : Binds K (fd 9) ["_law_words_here", "_law_at_here", "_law_deep"] []
  g_law_read : mg "_law_read" = some (.ref (fa 10))
  F_law_read : Fun K "_law_read" "_law_read" s_law_read (fa 10) (fd 10)
  b_law_read : Binds K (fd 10) ["_law_words_here"] []
  mk_Reader : Mk K (cc "Reader") (fa 11)
  F_Reader___init__ : Fun K "__init__" "Reader.__init__" s_Reader___init__ (fa 11) (fd 11)
  b_Reader___init__ : Binds K (fd 11) ["self", "signs"] []
  M_Reader_sign : Meth K (cc "Reader") "sign" (fa 12)
  F_Reader_sign : Fun K "sign" "Reader.sign" s_Reader_sign (fa 12) (fd 12)
  b_Reader_sign : Binds K (fd 12) ["self"] []
  M_Reader_want : Meth K (cc "Reader") "want" (fa 13)
  F_Reader_want : Fun K "want" "Reader.want" s_Reader_want (fa 13) (fd 13)
  b_Reader_want : Binds K (fd 13) ["self", "sign"] []
  mk_Piece : Mk K (cc "Piece") (fa 14)
  F_Piece___init__ : Fun K "__init__" "Piece.__init__" s_Piece___init__ (fa 14) (fd 14)
  b_Piece___init__ : Binds K (fd 14) ["self", "nail", "turns"] []
  M_Reader_figures : Meth K (cc "Reader") "figures" (fa 15)
  F_Reader_figures : Fun K "figures" "Reader.figures" s_Reader_figures (fa 15) (fd 15)
  b_Reader_figures : Binds K (fd 15) ["self"] []
  M_Reader_amount : Meth K (cc "Reader") "amount" (fa 16)
  F_Reader_amount : Fun K "amount" "Reader.amount" s_Reader_amount (fa 16) (fd 16)
  b_Reader_amount : Binds K (fd 16) ["self"] []
  mk_Times : Mk K (cc "Times") (fa 17)
  F_Times___init__ : Fun K "__init__" "Times.__init__" s_Times___init__ (fa 17) (fd 17)
  b_Times___init__ : Binds K (fd 17) ["self", "body", "number"] []
  mk_Back : Mk K (cc "Back") (fa 18)
  F_Back___init__ : Fun K "__init__" "Back.__init__" s_Back___init__ (fa 18) (fd 18)
  b_Back___init__ : Binds K (fd 18) ["self", "one", "other"] []
  mk_Parts : Mk K (cc "Parts") (fa 19)
  F_Parts___init__ : Fun K "__init__" "Parts.__init__" s_Parts___init__ (fa 19) (fd 19)
  b_Parts___init__ : Binds K (fd 19) ["self", "parts"] []
  M_Reader_part : Meth K (cc "Reader") "part" (fa 20)
  F_Reader_part : Fun K "part" "Reader.part" s_Reader_part (fa 20) (fd 20)
  b_Reader_part : Binds K (fd 20) ["self", "deep"] []
  M_Reader_row : Meth K (cc "Reader") "row" (fa 21)
  F_Reader_row : Fun K "row" "Reader.row" s_Reader_row (fa 21) (fd 21)
  b_Reader_row : Binds K (fd 21) ["self", "deep"] []
  g_read : mg "read" = some (.ref (fa 22))
  F_read : Fun K "read" "read" s_read (fa 22) (fd 22)
  b_read : Binds K (fd 22) ["text"] []
  g_law_others : mg "_law_others" = some (.ref (fa 23))
  F_law_others : Fun K "_law_others" "_law_others" s_law_others (fa 23) (fd 23)
  b_law_others : Binds K (fd 23) ["_law_e"] []
  g_law_said : mg "_law_said" = some (.ref (fa 24))
  F_law_said : Fun K "_law_said" "_law_said" s_law_said (fa 24) (fd 24)
  b_law_said : Binds K (fd 24) ["_law_thing"] []
  g_law_count : mg "_law_count" = some (.ref (fa 25))
  F_law_count : Fun K "_law_count" "_law_count" s_law_count (fa 25) (fd 25)
  b_law_count : Binds K (fd 25) ["_law_parts"] []
  M_Piece_pieces : Meth K (cc "Piece") "pieces" (fa 26)
  F_Piece_pieces : Fun K "pieces" "Piece.pieces" s_Piece_pieces (fa 26) (fd 26)
  b_Piece_pieces : Binds K (fd 26) ["self"] []
  M_Parts_pieces : Meth K (cc "Parts") "pieces" (fa 27)
  F_Parts_pieces : Fun K "pieces" "Parts.pieces" s_Parts_pieces (fa 27) (fd 27)
  b_Parts_pieces : Binds K (fd 27) ["self"] []
  M_Times_pieces : Meth K (cc "Times") "pieces" (fa 28)
  F_Times_pieces : Fun K "pieces" "Times.pieces" s_Times_pieces (fa 28) (fd 28)
  b_Times_pieces : Binds K (fd 28) ["self"] []
  M_Back_pieces : Meth K (cc "Back") "pieces" (fa 29)
  F_Back_pieces : Fun K "pieces" "Back.pieces" s_Back_pieces (fa 29) (fd 29)
  b_Back_pieces : Binds K (fd 29) ["self"] []
  g_law_right : mg "_law_right" = some (.ref (fa 30))
  F_law_right : Fun K "_law_right" "_law_right" s_law_right (fa 30) (fd 30)
  b_law_right : Binds K (fd 30) ["_law_found", "_law_due"] []
  g_law_contrary : mg "_law_contrary" = some (.ref (fa 31))
  F_law_contrary : Fun K "_law_contrary" "_law_contrary" s_law_contrary (fa 31) (fd 31)
  b_law_contrary : Binds K (fd 31) ["_law_cord_here"] []
  g_law_laid : mg "_law_laid" = some (.ref (fa 32))
  F_law_laid : Fun K "_law_laid" "_law_laid" s_law_laid (fa 32) (fd 32)
  b_law_laid : Binds K (fd 32) ["_law_parts"] []
  g_contrary : mg "contrary" = some (.ref (fa 33))
  F_contrary : Fun K "contrary" "contrary" s_contrary (fa 33) (fd 33)
  b_contrary : Binds K (fd 33) ["cord"] []
  M_Piece_laid : Meth K (cc "Piece") "laid" (fa 34)
  F_Piece_laid : Fun K "laid" "Piece.laid" s_Piece_laid (fa 34) (fd 34)
  b_Piece_laid : Binds K (fd 34) ["self"] []
  M_Parts_laid : Meth K (cc "Parts") "laid" (fa 35)
  F_Parts_laid : Fun K "laid" "Parts.laid" s_Parts_laid (fa 35) (fd 35)
  b_Parts_laid : Binds K (fd 35) ["self"] []
  M_Times_laid : Meth K (cc "Times") "laid" (fa 36)
  F_Times_laid : Fun K "laid" "Times.laid" s_Times_laid (fa 36) (fd 36)
  b_Times_laid : Binds K (fd 36) ["self"] []
  M_Back_laid : Meth K (cc "Back") "laid" (fa 37)
  F_Back_laid : Fun K "laid" "Back.laid" s_Back_laid (fa 37) (fd 37)
  b_Back_laid : Binds K (fd 37) ["self"] []
  M_cord_Piece : Meth K (cc "Piece") "cord" (fa 38)
  M_cord_Parts : Meth K (cc "Parts") "cord" (fa 38)
  M_cord_Times : Meth K (cc "Times") "cord" (fa 38)
  M_cord_Back : Meth K (cc "Back") "cord" (fa 38)
  F_Term_cord : Fun K "cord" "Term.cord" s_Term_cord (fa 38) (fd 38)
  b_Term_cord : Binds K (fd 38) ["self"] []
  g_law_same : mg "_law_same" = some (.ref (fa 39))
  F_law_same : Fun K "_law_same" "_law_same" s_law_same (fa 39) (fd 39)
  b_law_same : Binds K (fd 39) ["_law_words_here"] []
  g_law : mg "law" = some (.ref (fa 40))
  F_law : Fun K "law" "law" s_law (fa 40) (fd 40)
  b_law : Binds K (fd 40) ["_law_script"] []
  cl_Piece : Cls K (cc "Piece")
  mg_Piece : mg "Piece" = some (.ref (cc "Piece"))
  na_Piece_nail : NoAttr K (cc "Piece") "nail"
  na_Piece_turns : NoAttr K (cc "Piece") "turns"
  cl_Parts : Cls K (cc "Parts")
  mg_Parts : mg "Parts" = some (.ref (cc "Parts"))
  na_Parts_parts : NoAttr K (cc "Parts") "parts"
  eq_Parts : EqObj K (cc "Parts")
  cl_Times : Cls K (cc "Times")
  mg_Times : mg "Times" = some (.ref (cc "Times"))
  na_Times_body : NoAttr K (cc "Times") "body"
  na_Times_number : NoAttr K (cc "Times") "number"
  cl_Back : Cls K (cc "Back")
  mg_Back : mg "Back" = some (.ref (cc "Back"))
  na_Back_one : NoAttr K (cc "Back") "one"
  na_Back_other : NoAttr K (cc "Back") "other"
  cl_Reader : Cls K (cc "Reader")
  mg_Reader : mg "Reader" = some (.ref (cc "Reader"))
  na_Reader_signs : NoAttr K (cc "Reader") "signs"
  na_Reader_at : NoAttr K (cc "Reader") "at"
section
variable {P : Program} {w : World} {K : PySem.W.Frag} {mg : Str → Option Value} {base : Heap} {fa : Nat → Addr} {fd : Nat → FuncData} {ca : Nat → Addr} {tb : List (Addr × Str)} {cc : Str → Addr} {ti : Nat → Addr}
theorem ok_law_mix (T : Txt K mg fa fd ca cc ti) : FnOk P w K mg base (L2N.CX P w) 1 (fa 0) (fd 0) ["_law_cell", "_law_k"] (@spOf ⟨K, tb, cc⟩ mg SP_law_mix) := by
  letI : KC := ⟨K, tb, cc⟩
  have nd := sc_law_mix.nd
  refine fn_ok T.F_law_mix sc_law_mix len_law_mix (fun cdv A outer s H E hr xk => ⟨W_law_mix, ?_, pure_law_mix⟩)
  exact (sds_cons (sd_set 2 nd (ed_op dAdd (bd (ed_op dAdd (bd (ed_op dMod (bd (ed_var 0)) (bd ed_int))) (bd (ed_op dMul (bd ed_int) (bd (ed_var 1)))))) (bd ed_int)))
  (sds_cons (sd_set 2 nd (ed_op dMod (bd (ed_op dMul (bd (ed_var 2)) (bd (ed_op dAdd (bd ed_int) (bd (ed_op dMul (bd (ed_op dMul (bd ed_int) (bd (ed_var 1)))) (bd (ed_var 1)))))))) (bd ed_int)))
  (sds_one (sd_ret (ed_op dDiv (bd (ed_op dMod (bd (ed_op dMul (bd (ed_op dAdd (bd (ed_op dDiv (bd (ed_var 2)) (bd ed_int))) (bd (ed_op dMul (bd (ed_var 1)) (bd (ed_var 1)))))) (bd ed_int))) (bd ed_int))) (bd ed_int))))))
theorem ok_law_words (T : Txt K mg fa fd ca cc ti) (n : Nat) : FnOk P w K mg base (L2N.CX P w) (2 + n) (fa 1) (fd 1) ["_law_cell", "_law_deep", "_law_k"] (@spOf ⟨K, tb, cc⟩ mg (@SP_law_words n)) := by
  letI : KC := ⟨K, tb, cc⟩
  have nd := sc_law_words.nd
  induction n with
  | zero => exact fn_no no_law_words
  | succ n ih =>
    refine fn_ok (k := 2 + n) T.F_law_words sc_law_words (len_law_words (n + 1)) (fun cdv A outer s H E hr xk => ⟨W_law_words (SP_law_words n), ?_, pure_law_words n⟩)
    exact (sds_cons (sd_set 3 nd ed_str)
      (sds_cons (sd_for xk rfl (id_range1 rfl T.m_range (ed_op dMod (bd (ed_call (ok_law_mix T) (hr.mono (by omega)) xk rfl T.g_law_mix T.F_law_mix.kp T.b_law_mix (ad_cons (ed_var 0) (ad_cons (ed_var 2) ad_nil)))) (bd (ed_ix (bd (ed_new (df_lst (ad_cons ed_int (ad_cons ed_int (ad_cons ed_int (ad_cons ed_int ad_nil))))))) (bd (ed_op dSub (bd ed_int) (bd (ed_var 1)))))))) (gd_name 4 nd)
      (sds_cons (sd_set 5 nd (ed_op dAdd (bd (ed_op dAdd (bd (ed_op dMul (bd ed_int) (bd (ed_var 2)))) (bd (ed_op dMul (bd ed_int) (bd (ed_var 4)))))) (bd ed_int)))
      (sds_cons (sd_set 6 nd (ed_op dMod (bd (ed_call (ok_law_mix T) (hr.mono (by omega)) xk rfl T.g_law_mix T.F_law_mix.kp T.b_law_mix (ad_cons (ed_var 0) (ad_cons (ed_var 5) ad_nil)))) (bd ed_int)))
      (sds_cons (sd_set 7 nd (ed_ix (bd (ed_new (df_lst (ad_cons ed_str (ad_cons ed_str (ad_cons ed_str (ad_cons ed_str (ad_cons ed_str (ad_cons ed_str ad_nil))))))))) (bd (ed_op dMod (bd (ed_call (ok_law_mix T) (hr.mono (by omega)) xk rfl T.g_law_mix T.F_law_mix.kp T.b_law_mix (ad_cons (ed_var 0) (ad_cons (ed_op dAdd (bd (ed_var 5)) (bd ed_int)) ad_nil)))) (bd ed_int)))))
      (sds_one (sd_if (td_w (wd_and (td_cmp (dEq hr) (bd (ed_var 6)) (bd ed_int)) (wd_and1 (td_cmp dGt (bd (ed_var 1)) (bd ed_int)))))
      (sds_one (sd_set 3 nd (ed_op dAdd (bd (ed_op dAdd (bd (ed_op dAdd (bd (ed_op dAdd (bd (ed_var 3)) (bd ed_str))) (bd (ed_call ih (hr.mono (by omega)) xk rfl T.g_law_words T.F_law_words.kp T.b_law_words (ad_cons (ed_var 0) (ad_cons (ed_op dSub (bd (ed_var 1)) (bd ed_int)) (ad_cons (ed_op dAdd (bd (ed_var 5)) (bd ed_int)) ad_nil))))))) (bd ed_str))) (bd (ed_sl (bd (ed_var 7)) od_none (od_some (bd ed_int)))))))
      (sds_one (sd_if (td_w (wd_and (td_cmp (dEq hr) (bd (ed_var 6)) (bd ed_int)) (wd_and1 (td_cmp dGt (bd (ed_var 1)) (bd ed_int)))))
      (sds_cons (sd_set 8 nd (ed_call ih (hr.mono (by omega)) xk rfl T.g_law_words T.F_law_words.kp T.b_law_words (ad_cons (ed_var 0) (ad_cons (ed_op dSub (bd (ed_var 1)) (bd ed_int)) (ad_cons (ed_op dAdd (bd (ed_var 5)) (bd ed_int)) ad_nil)))))
      (sds_one (sd_set 3 nd (ed_op dAdd (bd (ed_op dAdd (bd (ed_op dAdd (bd (ed_op dAdd (bd (ed_op dAdd (bd (ed_var 3)) (bd ed_str))) (bd (ed_var 8)))) (bd ed_str))) (bd (ed_call ih (hr.mono (by omega)) xk rfl T.g_law_words T.F_law_words.kp T.b_law_words (ad_cons (ed_var 0) (ad_cons (ed_op dSub (bd (ed_var 1)) (bd ed_int)) (ad_cons (ed_op dAdd (bd (ed_var 5)) (bd ed_int)) ad_nil))))))) (bd ed_str)))))
      (sds_one (sd_set 3 nd (ed_op dAdd (bd (ed_op dAdd (bd (ed_var 3)) (bd (ed_ix (bd ed_str) (bd (ed_op dMod (bd (ed_call (ok_law_mix T) (hr.mono (by omega)) xk rfl T.g_law_mix T.F_law_mix.kp T.b_law_mix (ad_cons (ed_var 0) (ad_cons (ed_op dAdd (bd (ed_var 5)) (bd ed_int)) ad_nil)))) (bd ed_int))))))) (bd (ed_var 7)))))))))))))
      (sds_one (sd_ret (ed_var 3)))))
theorem ok_law_at (T : Txt K mg fa fd ca cc ti) : FnOk P w K mg base (L2N.CX P w) 1 (fa 2) (fd 2) ["_law_script", "_law_k"] (@spOf ⟨K, tb, cc⟩ mg SP_law_at) := by
  letI : KC := ⟨K, tb, cc⟩
  have nd := sc_law_at.nd
  refine fn_ok T.F_law_at sc_law_at len_law_at (fun cdv A outer s H E hr xk => ⟨W_law_at, ?_, pure_law_at⟩)
  exact (sds_cons (sd_if (td_cmp dLt (bd (ed_var 1)) (bd (ed_callB cLen rfl T.m_len (by decide +kernel) (ab_cons (bd (ed_var 0)) ab_nil))))
  (sds_one (sd_ret (ed_ix (bd (ed_var 0)) (bd (ed_var 1)))))
  sds_nil)
  (sds_one (sd_ret ed_int)))
theorem ok_law_within (T : Txt K mg fa fd ca cc ti) : FnOk P w K mg base (L2N.CX P w) 2 (fa 3) (fd 3) ["_law_words_here", "_law_many", "_law_cell"] (@spOf ⟨K, tb, cc⟩ mg SP_law_within) := by
  letI : KC := ⟨K, tb, cc⟩
  have nd := sc_law_within.nd
  refine fn_ok T.F_law_within sc_law_within len_law_within (fun cdv A outer s H E hr xk => ⟨W_law_within, ?_, pure_law_within⟩)
  exact (sds_cons (sd_for xk rfl (id_range1 rfl T.m_range (ed_var 1)) (gd_name 3 nd)
  (sds_one (sd_if (td_cmp (dEq hr) (bd (ed_op dMod (bd (ed_call (ok_law_mix T) (hr.mono (by omega)) xk rfl T.g_law_mix T.F_law_mix.kp T.b_law_mix (ad_cons (ed_var 2) (ad_cons (ed_var 3) ad_nil)))) (bd ed_int))) (bd ed_int))
  (sds_one (sd_set 0 nd (ed_op dAdd (bd (ed_op dAdd (bd ed_str) (bd (ed_var 0)))) (bd ed_str))))
  (sds_one (sd_set 0 nd (ed_op dAdd (bd (ed_ix (bd (ed_new (df_lst (ad_cons (ed_op dAdd (bd (ed_op dAdd (bd ed_str) (bd (ed_var 0)))) (bd ed_str)) (ad_cons (ed_op dAdd (bd (ed_op dAdd (bd ed_str) (bd (ed_var 0)))) (bd ed_str)) ad_nil))))) (bd (ed_op dMod (bd (ed_op dDiv (bd (ed_call (ok_law_mix T) (hr.mono (by omega)) xk rfl T.g_law_mix T.F_law_mix.kp T.b_law_mix (ad_cons (ed_var 2) (ad_cons (ed_var 3) ad_nil)))) (bd ed_int))) (bd ed_int))))) (bd ed_str)))))))
  (sds_one (sd_ret (ed_var 0))))
theorem ok_law_any_sign (T : Txt K mg fa fd ca cc ti) : FnOk P w K mg base (L2N.CX P w) 1 (fa 4) (fd 4) ["_law_cell"] (@spOf ⟨K, tb, cc⟩ mg SP_law_any_sign) := by
  letI : KC := ⟨K, tb, cc⟩
  have nd := sc_law_any_sign.nd
  refine fn_ok T.F_law_any_sign sc_law_any_sign len_law_any_sign (fun cdv A outer s H E hr xk => ⟨W_law_any_sign, ?_, pure_law_any_sign⟩)
  exact (sds_cons (sd_if (td_cmp (dEq hr) (bd (ed_op dMod (bd (ed_var 0)) (bd ed_int))) (bd ed_int))
  (sds_one (sd_ret (ed_ix (bd ed_str) (bd (ed_op dMod (bd (ed_op dDiv (bd (ed_var 0)) (bd ed_int))) (bd ed_int))))))
  sds_nil)
  (sds_cons (sd_set 1 nd ed_str)
  (sds_cons (sd_set 1 nd (ed_op dAdd (bd (ed_var 1)) (bd ed_str)))
  (sds_one (sd_ret (ed_ix (bd (ed_var 1)) (bd (ed_op dMod (bd (ed_op dDiv (bd (ed_var 0)) (bd ed_int))) (bd (ed_callB cLen rfl T.m_len (by decide +kernel) (ab_cons (bd (ed_var 1)) ab_nil)))))))))))
theorem ok_law_odd (T : Txt K mg fa fd ca cc ti) : FnOk P w K mg base (L2N.CX P w) 1 (fa 5) (fd 5) ["_law_cell"] (@spOf ⟨K, tb, cc⟩ mg SP_law_odd) := by
  letI : KC := ⟨K, tb, cc⟩
  have nd := sc_law_odd.nd
  refine fn_ok T.F_law_odd sc_law_odd len_law_odd (fun cdv A outer s H E hr xk => ⟨W_law_odd, ?_, pure_law_odd⟩)
  exact (sds_cons (sd_set 1 nd (ed_new (df_lst (ad_cons ed_str (ad_cons ed_str (ad_cons ed_str (ad_cons ed_str (ad_cons ed_str (ad_cons ed_str (ad_cons ed_str (ad_cons ed_str (ad_cons ed_str (ad_cons ed_str (ad_cons ed_str (ad_cons ed_str (ad_cons ed_str (ad_cons ed_str (ad_cons ed_str (ad_cons ed_str ad_nil)))))))))))))))))))
  (sds_cons (sd_set 1 nd (ed_op dAdd (bd (ed_var 1)) (bd (ed_new (df_lst (ad_cons ed_str (ad_cons ed_str (ad_cons ed_str (ad_cons ed_str (ad_cons ed_str (ad_cons ed_str (ad_cons (ed_op dAdd (bd ed_str) (bd (ed_op dMul (bd ed_str) (bd ed_int)))) (ad_cons ed_str ad_nil)))))))))))))
  (sds_one (sd_ret (ed_ix (bd (ed_var 1)) (bd (ed_op dMod (bd (ed_var 0)) (bd ed_int))))))))
theorem ok_law_spoiled (T : Txt K mg fa fd ca cc ti) : FnOk P w K mg base (L2N.CX P w) 2 (fa 6) (fd 6) ["_law_words_here", "_law_way", "_law_spot", "_law_cell"] (@spOf ⟨K, tb, cc⟩ mg SP_law_spoiled) := by
  letI : KC := ⟨K, tb, cc⟩
  have nd := sc_law_spoiled.nd
  refine fn_ok T.F_law_spoiled sc_law_spoiled len_law_spoiled (fun cdv A outer s H E hr xk => ⟨W_law_spoiled, ?_, pure_law_spoiled⟩)
  exact (sds_cons (sd_set 4 nd (ed_op dMod (bd (ed_var 2)) (bd (ed_op dAdd (bd (ed_callB cLen rfl T.m_len (by decide +kernel) (ab_cons (bd (ed_var 0)) ab_nil))) (bd ed_int)))))
  (sds_cons (sd_if (td_cmp dInI (bd (ed_var 1)) (bd (ed_new (df_lst (ad_cons ed_int (ad_cons ed_int ad_nil))))))
  (sds_one (sd_ret (ed_op dAdd (bd (ed_op dAdd (bd (ed_sl (bd (ed_var 0)) od_none (od_some (bd (ed_var 4))))) (bd (ed_call (ok_law_any_sign T) (hr.mono (by omega)) xk rfl T.g_law_any_sign T.F_law_any_sign.kp T.b_law_any_sign (ad_cons (ed_var 3) ad_nil))))) (bd (ed_sl (bd (ed_var 0)) (od_some (bd (ed_var 4))) od_none)))))
  sds_nil)
  (sds_cons (sd_if (td_cmp dInI (bd (ed_var 1)) (bd (ed_new (df_lst (ad_cons ed_int (ad_cons ed_int ad_nil))))))
  (sds_one (sd_ret (ed_op dAdd (bd (ed_op dAdd (bd (ed_sl (bd (ed_var 0)) od_none (od_some (bd (ed_var 4))))) (bd (ed_call (ok_law_any_sign T) (hr.mono (by omega)) xk rfl T.g_law_any_sign T.F_law_any_sign.kp T.b_law_any_sign (ad_cons (ed_var 3) ad_nil))))) (bd (ed_sl (bd (ed_var 0)) (od_some (bd (ed_op dAdd (bd (ed_var 4)) (bd ed_int)))) od_none)))))
  sds_nil)
  (sds_cons (sd_if (td_cmp (dEq hr) (bd (ed_var 1)) (bd ed_int))
  (sds_one (sd_ret (ed_op dAdd (bd (ed_sl (bd (ed_var 0)) od_none (od_some (bd (ed_var 4))))) (bd (ed_sl (bd (ed_var 0)) (od_some (bd (ed_op dAdd (bd (ed_var 4)) (bd ed_int)))) od_none)))))
  sds_nil)
  (sds_cons (sd_if (td_cmp (dEq hr) (bd (ed_var 1)) (bd ed_int))
  (sds_one (sd_ret (ed_call (ok_law_odd T) (hr.mono (by omega)) xk rfl T.g_law_odd T.F_law_odd.kp T.b_law_odd (ad_cons (ed_var 3) ad_nil))))
  sds_nil)
  (sds_one (sd_ret (ed_var 0))))))))
theorem ok_law_number (T : Txt K mg fa fd ca cc ti) : FnOk P w K mg base (L2N.CX P w) 1 (fa 7) (fd 7) ["_law_words_here", "_law_at_here"] (@spOf ⟨K, tb, cc⟩ mg SP_law_number) := by
  letI : KC := ⟨K, tb, cc⟩
  have nd := sc_law_number.nd
  refine fn_ok T.F_law_number sc_law_number len_law_number (fun cdv A outer s H E hr xk => ⟨W_law_number, ?_, pure_law_number⟩)
  exact (sds_cons (sd_set 2 nd (ed_var 1))
  (sds_cons (sd_if (td_cmp (dEq hr) (bd (ed_sl (bd (ed_var 0)) (od_some (bd (ed_var 2))) (od_some (bd (ed_op dAdd (bd (ed_var 2)) (bd ed_int)))))) (bd ed_str))
  (sds_one (sd_set 2 nd (ed_op dAdd (bd (ed_var 2)) (bd ed_int))))
  sds_nil)
  (sds_cons (sd_set 3 nd (ed_var 2))
  (sds_cons (sd_while xk (td_w (wd_and (td_cmp (dNe hr) (bd (ed_sl (bd (ed_var 0)) (od_some (bd (ed_var 2))) (od_some (bd (ed_op dAdd (bd (ed_var 2)) (bd ed_int)))))) (bd ed_str)) (wd_and1 (td_cmp dInS (bd (ed_ix (bd (ed_var 0)) (bd (ed_var 2)))) (bd ed_str)))))
  (sds_one (sd_set 2 nd (ed_op dAdd (bd (ed_var 2)) (bd ed_int)))))
  (sds_cons (sd_if (td_cmp (dEq hr) (bd (ed_var 2)) (bd (ed_var 1)))
  (sds_one (sd_ret (ed_tup (ad_cons ed_int (ad_cons (ed_var 1) ad_nil)))))
  sds_nil)
  (sds_cons (sd_set 4 nd (ed_sl (bd (ed_var 0)) (od_some (bd (ed_var 3))) (od_some (bd (ed_var 2)))))
  (sds_cons (sd_if (td_w (wd_or (td_cmp (dEq hr) (bd (ed_var 4)) (bd ed_str)) (wd_or (td_cmp dGt (bd (ed_callB cLen rfl T.m_len (by decide +kernel) (ab_cons (bd (ed_var 4)) ab_nil))) (bd ed_int)) (wd_or1 (td_w (wd_and (td_cmp (dEq hr) (bd (ed_ix (bd (ed_var 4)) (bd ed_int))) (bd ed_str)) (wd_and1 (td_cmp (dNe hr) (bd (ed_sl (bd (ed_var 0)) (od_some (bd (ed_var 1))) (od_some (bd (ed_var 2))))) (bd ed_str)))))))))
  (sds_one (sd_ret ed_non))
  sds_nil)
  (sds_one (sd_ret (ed_tup (ad_cons (ed_callT cIntS rfl T.m_int (by decide +kernel) (ab_cons (bd (ed_sl (bd (ed_var 0)) (od_some (bd (ed_var 1))) (od_some (bd (ed_var 2))))) ab_nil)) (ad_cons (ed_var 2) ad_nil))))))))))))
theorem ok_lawp2 (T : Txt K mg fa fd ca cc ti) (n : Nat) : FnOk P w K mg base (L2N.CX P w) (2 + n) (fa 8) (fd 8) ["_law_words_here", "_law_at_here", "_law_deep"] (@spOf ⟨K, tb, cc⟩ mg (SP_law_bracket n)) ∧ FnOk P w K mg base (L2N.CX P w) (2 + n) (fa 9) (fd 9) ["_law_words_here", "_law_at_here", "_law_deep"] (@spOf ⟨K, tb, cc⟩ mg (SP_law_row n)) := by
  letI : KC := ⟨K, tb, cc⟩
  have nd0 := sc_law_bracket.nd
  have nd1 := sc_law_row.nd
  induction n with
  | zero => exact ⟨fn_no no_law_bracket, fn_no no_law_row⟩
  | succ n ih =>
    refine ⟨?_, ?_⟩
    · have nd := nd0
      refine fn_ok (k := 2 + n) T.F_law_bracket sc_law_bracket (len_law_bracket (n + 1)) (fun cdv A outer s H E hr xk => ⟨W_law_bracket (SP_law_bracket n) (SP_law_row n), ?_, pure_law_bracket n⟩)
      exact (sds_cons (sd_set 3 nd (ed_call ih.2 (hr.mono (by omega)) xk rfl T.g_law_row T.F_law_row.kp T.b_law_row (ad_cons (ed_var 0) (ad_cons (ed_op dAdd (bd (ed_var 1)) (bd ed_int)) (ad_cons (ed_op dAdd (bd (ed_var 2)) (bd ed_int)) ad_nil)))))
        (sds_cons (sd_if (td_w (wd_or (td_cmp dIsN (bd (ed_var 3)) (bd ed_non)) (wd_or1 (td_cmp (dEq hr) (bd (ed_var 2)) (bd ed_int)))))
        (sds_one (sd_ret ed_non))
        sds_nil)
        (sds_cons (sd_set 4 nd (ed_ix (bd (ed_var 3)) (bd ed_int)))
        (sds_cons (sd_if (td_w (wd_and (td_cmp (dEq hr) (bd (ed_ix (bd (ed_var 0)) (bd (ed_var 1)))) (bd ed_str)) (wd_and1 (td_cmp (dEq hr) (bd (ed_sl (bd (ed_var 0)) (od_some (bd (ed_var 4))) (od_some (bd (ed_op dAdd (bd (ed_var 4)) (bd ed_int)))))) (bd ed_str)))))
        (sds_cons (sd_set 6 nd (ed_call (ok_law_number T) (hr.mono (by omega)) xk rfl T.g_law_number T.F_law_number.kp T.b_law_number (ad_cons (ed_var 0) (ad_cons (ed_op dAdd (bd (ed_var 4)) (bd ed_int)) ad_nil))))
        (sds_cons (sd_if (td_cmp dIsN (bd (ed_var 6)) (bd ed_non))
        (sds_one (sd_ret ed_non))
        sds_nil)
        (sds_one (sd_ret (ed_tup (ad_cons (ed_tup (ad_cons ed_str (ad_cons (ed_ix (bd (ed_var 3)) (bd ed_int)) (ad_cons (ed_ix (bd (ed_var 6)) (bd ed_int)) ad_nil)))) (ad_cons (ed_ix (bd (ed_var 6)) (bd ed_int)) ad_nil)))))))
        sds_nil)
        (sds_cons (sd_if (td_w (wd_or (td_cmp (dEq hr) (bd (ed_ix (bd (ed_var 0)) (bd (ed_var 1)))) (bd ed_str)) (wd_or1 (td_cmp (dNe hr) (bd (ed_sl (bd (ed_var 0)) (od_some (bd (ed_var 4))) (od_some (bd (ed_op dAdd (bd (ed_var 4)) (bd ed_int)))))) (bd ed_str)))))
        (sds_one (sd_ret ed_non))
        sds_nil)
        (sds_cons (sd_set 5 nd (ed_call ih.2 (hr.mono (by omega)) xk rfl T.g_law_row T.F_law_row.kp T.b_law_row (ad_cons (ed_var 0) (ad_cons (ed_op dAdd (bd (ed_var 4)) (bd ed_int)) (ad_cons (ed_op dAdd (bd (ed_var 2)) (bd ed_int)) ad_nil)))))
        (sds_cons (sd_if (td_w (wd_or (td_cmp dIsN (bd (ed_var 5)) (bd ed_non)) (wd_or1 (td_cmp (dNe hr) (bd (ed_sl (bd (ed_var 0)) (od_some (bd (ed_ix (bd (ed_var 5)) (bd ed_int)))) (od_some (bd (ed_op dAdd (bd (ed_ix (bd (ed_var 5)) (bd ed_int))) (bd ed_int)))))) (bd ed_str)))))
        (sds_one (sd_ret ed_non))
        sds_nil)
        (sds_one (sd_ret (ed_tup (ad_cons (ed_tup (ad_cons ed_str (ad_cons (ed_ix (bd (ed_var 3)) (bd ed_int)) (ad_cons (ed_ix (bd (ed_var 5)) (bd ed_int)) ad_nil)))) (ad_cons (ed_op dAdd (bd (ed_ix (bd (ed_var 5)) (bd ed_int))) (bd ed_int)) ad_nil))))))))))))
    · have nd := nd1
      refine fn_ok (k := 2 + n) T.F_law_row sc_law_row (len_law_row (n + 1)) (fun cdv A outer s H E hr xk => ⟨W_law_row (SP_law_bracket n) (SP_law_row n), ?_, pure_law_row n⟩)
      exact (sds_cons (sd_setF 3 nd (df_lst ad_nil))
        (sds_cons (sd_while xk (td_w (wd_and (td_cmp dLt (bd (ed_var 1)) (bd (ed_callB cLen rfl T.m_len (by decide +kernel) (ab_cons (bd (ed_var 0)) ab_nil)))) (wd_and1 (td_cmp dNotInS (bd (ed_ix (bd (ed_var 0)) (bd (ed_var 1)))) (bd ed_str)))))
        (sds_cons (sd_if (td_w (wd_and (td_cmp dInS (bd (ed_ix (bd (ed_var 0)) (bd (ed_var 1)))) (bd ed_str)) (wd_and1 (td_cmp dLt (bd (ed_var 2)) (bd ed_int)))))
        (sds_one (sd_set 4 nd (ed_call ih.1 (hr.mono (by omega)) xk rfl T.g_law_bracket T.F_law_bracket.kp T.b_law_bracket (ad_cons (ed_var 0) (ad_cons (ed_var 1) (ad_cons (ed_var 2) ad_nil))))))
        (sds_one (sd_if (td_cmp dInS (bd (ed_ix (bd (ed_var 0)) (bd (ed_var 1)))) (bd ed_str))
        (sds_cons (sd_set 4 nd (ed_call (ok_law_number T) (hr.mono (by omega)) xk rfl T.g_law_number T.F_law_number.kp T.b_law_number (ad_cons (ed_var 0) (ad_cons (ed_op dAdd (bd (ed_var 1)) (bd ed_int)) ad_nil))))
        (sds_one (sd_if (td_cmp dIsNotN (bd (ed_var 4)) (bd ed_non))
        (sds_one (sd_set 4 nd (ed_tup (ad_cons (ed_tup (ad_cons ed_str (ad_cons (ed_ix (bd (ed_var 0)) (bd (ed_var 1))) (ad_cons (ed_ix (bd (ed_var 4)) (bd ed_int)) ad_nil)))) (ad_cons (ed_ix (bd (ed_var 4)) (bd ed_int)) ad_nil)))))
        sds_nil)))
        (sds_one (sd_set 4 nd ed_non)))))
        (sds_cons (sd_if (td_cmp dIsN (bd (ed_var 4)) (bd ed_non))
        (sds_one (sd_ret ed_non))
        sds_nil)
        (sds_cons (sd_mut 3 mApp PySem.F.slot_list_append PySem.F.type_list_append (ad_cons (ed_ix (bd (ed_var 4)) (bd ed_int)) ad_nil))
        (sds_one (sd_set 1 nd (ed_ix (bd (ed_var 4)) (bd ed_int))))))))
        (sds_frz 3 (sds_one (sd_ret (ed_tup (ad_cons (ed_var 3) (ad_cons (ed_var 1) ad_nil))))))))
theorem ok_law_read (T : Txt K mg fa fd ca cc ti) : FnOk P w K mg base (L2N.CX P w) 67 (fa 10) (fd 10) ["_law_words_here"] (@spOf ⟨K, tb, cc⟩ mg SP_law_read) := by
  letI : KC := ⟨K, tb, cc⟩
  have nd := sc_law_read.nd
  refine fn_ok T.F_law_read sc_law_read len_law_read (fun cdv A outer s H E hr xk => ⟨W_law_read, ?_, pure_law_read⟩)
  exact (sds_cons (sd_set 1 nd (ed_call (ok_lawp2 T 64).2 (hr.mono (by omega)) xk rfl T.g_law_row T.F_law_row.kp T.b_law_row (ad_cons (ed_var 0) (ad_cons ed_int (ad_cons ed_int ad_nil)))))
  (sds_cons (sd_if (td_w (wd_or (td_cmp dIsN (bd (ed_var 1)) (bd ed_non)) (wd_or1 (td_cmp dLt (bd (ed_ix (bd (ed_var 1)) (bd ed_int))) (bd (ed_callB cLen rfl T.m_len (by decide +kernel) (ab_cons (bd (ed_var 0)) ab_nil)))))))
  (sds_one (sd_ret ed_non))
  sds_nil)
  (sds_one (sd_ret (ed_ix (bd (ed_var 1)) (bd ed_int))))))
theorem ok_Reader___init__ (T : Txt K mg fa fd ca cc ti) : FnOk P w K mg base (L2N.CX P w) 1 (fa 11) (fd 11) ["self", "signs"] (@spOfO ⟨K, tb, cc⟩ mg SP_Reader___init__) := by
  letI : KC := ⟨K, tb, cc⟩
  have nd := sc_Reader___init__.nd
  refine fn_okO T.F_Reader___init__ sc_Reader___init__ len_Reader___init__ (fun cdv A outer s H E hr xk => ⟨W_Reader___init__, ?_, pure_Reader___init__⟩)
  exact (sds_cons (sd_addFld 0 "Reader" [] "signs" T.cl_Reader T.na_Reader_signs (ed_var 1))
  (sds_one (sd_addFld 0 "Reader" ["signs"] "at" T.cl_Reader T.na_Reader_at ed_int)))
theorem ok_Reader_sign (T : Txt K mg fa fd ca cc ti) : FnOk P w K mg base (L2N.CX P w) 1 (fa 12) (fd 12) ["self"] (@spOf ⟨K, tb, cc⟩ mg SP_Reader_sign) := by
  letI : KC := ⟨K, tb, cc⟩
  have nd := sc_Reader_sign.nd
  refine fn_ok T.F_Reader_sign sc_Reader_sign len_Reader_sign (fun cdv A outer s H E hr xk => ⟨W_Reader_sign, ?_, pure_Reader_sign⟩)
  exact (sds_one (sd_ret (ed_sl (bd (ed_fld "Reader" ["signs", "at"] 0 T.cl_Reader T.na_Reader_signs (bd (ed_var 0)))) (od_some (bd (ed_fld "Reader" ["signs", "at"] 1 T.cl_Reader T.na_Reader_at (bd (ed_var 0))))) (od_some (bd (ed_op dAdd (bd (ed_fld "Reader" ["signs", "at"] 1 T.cl_Reader T.na_Reader_at (bd (ed_var 0)))) (bd ed_int)))))))
theorem mk_Reader_sign (T : Txt K mg fa fd ca cc ti) : ∀ c ∈ (["Reader"] : List Str), MK P w K mg base 1 "sign" (cc c) (@spOf ⟨K, tb, cc⟩ mg (SPc c SP_Reader_sign)) := by
  letI : KC := ⟨K, tb, cc⟩
  exact (allM_cons ⟨_, _, _, T.cl_Reader, T.M_Reader_sign, fn_c (ok_Reader_sign T), T.b_Reader_sign⟩ allM_nil)
theorem ok_Reader_want (T : Txt K mg fa fd ca cc ti) : MK P w K mg base 2 "want" (cc "Reader") (@spOfO ⟨K, tb, cc⟩ mg SP_Reader_want) := by
  letI : KC := ⟨K, tb, cc⟩
  have nd := sc_Reader_want.nd
  refine ⟨_, _, _, T.cl_Reader, T.M_Reader_want, ?_, T.b_Reader_want⟩
  refine fn_okO T.F_Reader_want sc_Reader_want len_Reader_want (fun cdv A outer s H E hr xk => ⟨W_Reader_want, ?_, pure_Reader_want⟩)
  exact (sds_cons (sd_if (td_cmp (dNe hr) (bd (ed_methN0 (mc_of (cs := ["Reader"]) (mk_Reader_sign T) (hr.mono (by omega))) xk (bd_own 0))) (bd (ed_var 1)))
  (sds_one (sd_raise xk rfl T.x_NoText rfl))
  sds_nil)
  (sds_one (sd_setFld 0 "Reader" ["signs", "at"] 1 T.cl_Reader T.na_Reader_at (ed_op dAdd (bd (ed_fld "Reader" ["signs", "at"] 1 T.cl_Reader T.na_Reader_at (bd_own 0))) (bd ed_int)))))
theorem ok_Piece___init__ (T : Txt K mg fa fd ca cc ti) : FnOk P w K mg base (L2N.CX P w) 1 (fa 14) (fd 14) ["self", "nail", "turns"] (@spOfO ⟨K, tb, cc⟩ mg SP_Piece___init__) := by
  letI : KC := ⟨K, tb, cc⟩
  have nd := sc_Piece___init__.nd
  refine fn_okO T.F_Piece___init__ sc_Piece___init__ len_Piece___init__ (fun cdv A outer s H E hr xk => ⟨W_Piece___init__, ?_, pure_Piece___init__⟩)
  exact (sds_cons (sd_addFld 0 "Piece" [] "nail" T.cl_Piece T.na_Piece_nail (ed_var 1))
  (sds_one (sd_addFld 0 "Piece" ["nail"] "turns" T.cl_Piece T.na_Piece_turns (ed_var 2))))
theorem ok_Reader_figures (T : Txt K mg fa fd ca cc ti) : MK P w K mg base 2 "figures" (cc "Reader") (@spOfO ⟨K, tb, cc⟩ mg SP_Reader_figures) := by
  letI : KC := ⟨K, tb, cc⟩
  have nd := sc_Reader_figures.nd
  refine ⟨_, _, _, T.cl_Reader, T.M_Reader_figures, ?_, T.b_Reader_figures⟩
  refine fn_okO T.F_Reader_figures sc_Reader_figures len_Reader_figures (fun cdv A outer s H E hr xk => ⟨W_Reader_figures, ?_, pure_Reader_figures⟩)
  exact (sds_cons (sd_set 1 nd (ed_fld "Reader" ["signs", "at"] 1 T.cl_Reader T.na_Reader_at (bd_own 0)))
  (sds_cons (sd_while xk (td_w (wd_and (td_cmp (dNe hr) (bd (ed_methN0 (mc_of (cs := ["Reader"]) (mk_Reader_sign T) (hr.mono (by omega))) xk (bd_own 0))) (bd ed_str)) (wd_and1 (td_cmp dInS (bd (ed_methN0 (mc_of (cs := ["Reader"]) (mk_Reader_sign T) (hr.mono (by omega))) xk (bd_own 0))) (bd (ed_globS rfl T.c_FIGURES))))))
  (sds_one (sd_setFld 0 "Reader" ["signs", "at"] 1 T.cl_Reader T.na_Reader_at (ed_op dAdd (bd (ed_fld "Reader" ["signs", "at"] 1 T.cl_Reader T.na_Reader_at (bd_own 0))) (bd ed_int)))))
  (sds_one (sd_ret (ed_sl (bd (ed_fld "Reader" ["signs", "at"] 0 T.cl_Reader T.na_Reader_signs (bd_own 0))) (od_some (bd (ed_var 1))) (od_some (bd (ed_fld "Reader" ["signs", "at"] 1 T.cl_Reader T.na_Reader_at (bd_own 0)))))))))
theorem ok_Reader_amount (T : Txt K mg fa fd ca cc ti) : MK P w K mg base 3 "amount" (cc "Reader") (@spOfO ⟨K, tb, cc⟩ mg SP_Reader_amount) := by
  letI : KC := ⟨K, tb, cc⟩
  have nd := sc_Reader_amount.nd
  refine ⟨_, _, _, T.cl_Reader, T.M_Reader_amount, ?_, T.b_Reader_amount⟩
  refine fn_okO T.F_Reader_amount sc_Reader_amount len_Reader_amount (fun cdv A outer s H E hr xk => ⟨W_Reader_amount, ?_, pure_Reader_amount⟩)
  exact (sds_cons (sd_set 1 nd (ed_cmp (dEq hr) (bd (ed_methN0 (mc_of (cs := ["Reader"]) (mk_Reader_sign T) (hr.mono (by omega))) xk (bd_own 0))) (bd ed_str)))
  (sds_cons (sd_if (td_val (bd (ed_var 1)))
  (sds_one (sd_exprM (em_meth 0 "Reader" ["signs", "at"] ((ok_Reader_want T).mc (hr.mono (by omega))) xk (ad_cons ed_str ad_nil))))
  sds_nil)
  (sds_cons (sd_setM 2 nd (em_meth0 0 "Reader" ["signs", "at"] ((ok_Reader_figures T).mc (hr.mono (by omega))) xk))
  (sds_cons (sd_if (td_w (wd_and (td_cmp (dEq hr) (bd (ed_var 2)) (bd ed_str)) (wd_and1 (td_not (td_val (bd (ed_var 1)))))))
  (sds_one (sd_ret ed_int))
  sds_nil)
  (sds_cons (sd_if (td_w (wd_or (td_cmp (dEq hr) (bd (ed_var 2)) (bd ed_str)) (wd_or1 (td_cmp dGt (bd (ed_callB cLen rfl T.m_len (by decide +kernel) (ab_cons (bd (ed_var 2)) ab_nil))) (bd (ed_globI rfl T.c_MOST_FIGURES))))))
  (sds_one (sd_raise xk rfl T.x_NoText rfl))
  sds_nil)
  (sds_cons (sd_if (td_w (wd_and (td_cmp (dEq hr) (bd (ed_ix (bd (ed_var 2)) (bd ed_int))) (bd ed_str)) (wd_and1 (td_w (wd_or (td_val (bd (ed_var 1))) (wd_or1 (td_cmp dGt (bd (ed_callB cLen rfl T.m_len (by decide +kernel) (ab_cons (bd (ed_var 2)) ab_nil))) (bd ed_int))))))))
  (sds_one (sd_raise xk rfl T.x_NoText rfl))
  sds_nil)
  (sds_cons (sd_if (td_val (bd (ed_var 1)))
  (sds_one (sd_ret (ed_un un_neg (ed_callT cIntS rfl T.m_int (by decide +kernel) (ab_cons (bd (ed_var 2)) ab_nil)))))
  sds_nil)
  (sds_one (sd_ret (ed_callT cIntS rfl T.m_int (by decide +kernel) (ab_cons (bd (ed_var 2)) ab_nil)))))))))))
theorem ok_Times___init__ (T : Txt K mg fa fd ca cc ti) : FnOk P w K mg base (L2N.CX P w) 1 (fa 17) (fd 17) ["self", "body", "number"] (@spOfO ⟨K, tb, cc⟩ mg SP_Times___init__) := by
  letI : KC := ⟨K, tb, cc⟩
  have nd := sc_Times___init__.nd
  refine fn_okO T.F_Times___init__ sc_Times___init__ len_Times___init__ (fun cdv A outer s H E hr xk => ⟨W_Times___init__, ?_, pure_Times___init__⟩)
  exact (sds_cons (sd_addFld 0 "Times" [] "body" T.cl_Times T.na_Times_body (ed_var 1))
  (sds_one (sd_addFld 0 "Times" ["body"] "number" T.cl_Times T.na_Times_number (ed_var 2))))
theorem ok_Back___init__ (T : Txt K mg fa fd ca cc ti) : FnOk P w K mg base (L2N.CX P w) 1 (fa 18) (fd 18) ["self", "one", "other"] (@spOfO ⟨K, tb, cc⟩ mg SP_Back___init__) := by
  letI : KC := ⟨K, tb, cc⟩
  have nd := sc_Back___init__.nd
  refine fn_okO T.F_Back___init__ sc_Back___init__ len_Back___init__ (fun cdv A outer s H E hr xk => ⟨W_Back___init__, ?_, pure_Back___init__⟩)
  exact (sds_cons (sd_addFld 0 "Back" [] "one" T.cl_Back T.na_Back_one (ed_var 1))
  (sds_one (sd_addFld 0 "Back" ["one"] "other" T.cl_Back T.na_Back_other (ed_var 2))))
theorem ok_Parts___init__ (T : Txt K mg fa fd ca cc ti) : FnOk P w K mg base (L2N.CX P w) 1 (fa 19) (fd 19) ["self", "parts"] (@spOfO ⟨K, tb, cc⟩ mg SP_Parts___init__) := by
  letI : KC := ⟨K, tb, cc⟩
  have nd := sc_Parts___init__.nd
  refine fn_okO T.F_Parts___init__ sc_Parts___init__ len_Parts___init__ (fun cdv A outer s H E hr xk => ⟨W_Parts___init__, ?_, pure_Parts___init__⟩)
  exact (sds_one (sd_addFld 0 "Parts" [] "parts" T.cl_Parts T.na_Parts_parts (ed_new (df_callT cListF rfl T.m_list (by decide +kernel) (ab_cons (bd (ed_var 1)) ab_nil)))))
theorem ok_Reader (T : Txt K mg fa fd ca cc ti) (n : Nat) : MK P w K mg base (4 + n) "part" (cc "Reader") (@spOfO ⟨K, tb, cc⟩ mg (SP_Reader_part n)) ∧ MK P w K mg base (4 + n) "row" (cc "Reader") (@spOfO ⟨K, tb, cc⟩ mg (SP_Reader_row n)) := by
  letI : KC := ⟨K, tb, cc⟩
  have nd0 := sc_Reader_part.nd
  have nd1 := sc_Reader_row.nd
  induction n with
  | zero => exact ⟨⟨_, _, _, T.cl_Reader, T.M_Reader_part, fn_noO no_Reader_part, T.b_Reader_part⟩, ⟨_, _, _, T.cl_Reader, T.M_Reader_row, fn_noO no_Reader_row, T.b_Reader_row⟩⟩
  | succ n ih =>
    refine ⟨⟨_, _, _, T.cl_Reader, T.M_Reader_part, ?_, T.b_Reader_part⟩, ⟨_, _, _, T.cl_Reader, T.M_Reader_row, ?_, T.b_Reader_row⟩⟩
    · have nd := nd0
      refine fn_okO (k := 4 + n) T.F_Reader_part sc_Reader_part (len_Reader_part (n + 1)) (fun cdv A outer s H E hr xk => ⟨W_Reader_part (SP_Reader_part n) (SP_Reader_row n), ?_, pure_Reader_part n⟩)
      exact (sds_cons (sd_set 2 nd (ed_methN0 (mc_of (cs := ["Reader"]) (mk_Reader_sign T) (hr.mono (by omega))) xk (bd_own 0)))
        (sds_cons (sd_if (td_w (wd_and (td_cmp (dNe hr) (bd (ed_var 2)) (bd ed_str)) (wd_and1 (td_cmp dInS (bd (ed_var 2)) (bd (ed_globS rfl T.c_LETTERS))))))
        (sds_cons (sd_exprM (em_meth 0 "Reader" ["signs", "at"] ((ok_Reader_want T).mc (hr.mono (by omega))) xk (ad_cons (ed_var 2) ad_nil)))
        (sds_one (sd_retM (em_make "Piece" T.mk_Piece (ok_Piece___init__ T) (hr.mono (by omega)) xk rfl T.mg_Piece T.b_Piece___init__ (am_cons (ed_var 2) (am_one (em_meth0 0 "Reader" ["signs", "at"] ((ok_Reader_amount T).mc (hr.mono (by omega))) xk)))))))
        sds_nil)
        (sds_cons (sd_if (td_cmp (dEq hr) (bd (ed_var 1)) (bd (ed_globI rfl T.c_DEEPEST)))
        (sds_one (sd_raise xk rfl T.x_NoText rfl))
        sds_nil)
        (sds_cons (sd_if (td_cmp (dEq hr) (bd (ed_var 2)) (bd ed_str))
        (sds_cons (sd_exprM (em_meth 0 "Reader" ["signs", "at"] ((ok_Reader_want T).mc (hr.mono (by omega))) xk (ad_cons ed_str ad_nil)))
        (sds_cons (sd_setM 5 nd (em_meth 0 "Reader" ["signs", "at"] (ih.2.mc (hr.mono (by omega))) xk (ad_cons (ed_op dAdd (bd (ed_var 1)) (bd ed_int)) ad_nil)))
        (sds_cons (sd_exprM (em_meth 0 "Reader" ["signs", "at"] ((ok_Reader_want T).mc (hr.mono (by omega))) xk (ad_cons ed_str ad_nil)))
        (sds_one (sd_retM (em_make "Times" T.mk_Times (ok_Times___init__ T) (hr.mono (by omega)) xk rfl T.mg_Times T.b_Times___init__ (am_cons (ed_var 5) (am_one (em_meth0 0 "Reader" ["signs", "at"] ((ok_Reader_amount T).mc (hr.mono (by omega))) xk)))))))))
        sds_nil)
        (sds_cons (sd_exprM (em_meth 0 "Reader" ["signs", "at"] ((ok_Reader_want T).mc (hr.mono (by omega))) xk (ad_cons ed_str ad_nil)))
        (sds_cons (sd_setM 3 nd (em_meth 0 "Reader" ["signs", "at"] (ih.2.mc (hr.mono (by omega))) xk (ad_cons (ed_op dAdd (bd (ed_var 1)) (bd ed_int)) ad_nil)))
        (sds_cons (sd_exprM (em_meth 0 "Reader" ["signs", "at"] ((ok_Reader_want T).mc (hr.mono (by omega))) xk (ad_cons ed_str ad_nil)))
        (sds_cons (sd_setM 4 nd (em_meth 0 "Reader" ["signs", "at"] (ih.2.mc (hr.mono (by omega))) xk (ad_cons (ed_op dAdd (bd (ed_var 1)) (bd ed_int)) ad_nil)))
        (sds_cons (sd_exprM (em_meth 0 "Reader" ["signs", "at"] ((ok_Reader_want T).mc (hr.mono (by omega))) xk (ad_cons ed_str ad_nil)))
        (sds_one (sd_ret (ed_make "Back" T.mk_Back (ok_Back___init__ T) (hr.mono (by omega)) xk rfl T.mg_Back T.b_Back___init__ (ad_cons (ed_var 3) (ad_cons (ed_var 4) ad_nil))))))))))))))
    · have nd := nd1
      refine fn_okO (k := 4 + n) T.F_Reader_row sc_Reader_row (len_Reader_row (n + 1)) (fun cdv A outer s H E hr xk => ⟨W_Reader_row (SP_Reader_part n) (SP_Reader_row n), ?_, pure_Reader_row n⟩)
      exact (sds_cons (sd_setF 2 nd (df_lst ad_nil))
        (sds_cons (sd_while xk (td_cmp dNotInT (bd (ed_methN0 (mc_of (cs := ["Reader"]) (mk_Reader_sign T) (hr.mono (by omega))) xk (bd_own 0))) (bd (ed_tup (ad_cons ed_str (ad_cons ed_str (ad_cons ed_str (ad_cons ed_str ad_nil)))))))
        (sds_one (sd_appM 2 (em_meth 0 "Reader" ["signs", "at"] (ih.1.mc (hr.mono (by omega))) xk (ad_cons (ed_var 1) ad_nil)))))
        (sds_frz 2 (sds_one (sd_ret (ed_make "Parts" T.mk_Parts (ok_Parts___init__ T) (hr.mono (by omega)) xk rfl T.mg_Parts T.b_Parts___init__ (ad_cons (ed_var 2) ad_nil)))))))
theorem ok_read (T : Txt K mg fa fd ca cc ti) : FnOk P w K mg base (L2N.CX P w) 69 (fa 22) (fd 22) ["text"] (@spOf ⟨K, tb, cc⟩ mg SP_read) := by
  letI : KC := ⟨K, tb, cc⟩
  have nd := sc_read.nd
  refine fn_ok T.F_read sc_read len_read (fun cdv A outer s H E hr xk => ⟨W_read, ?_, pure_read⟩)
  exact (sds_cons (sd_if (td_not (td_val (bd (ed_isT rfl T.m_isinstance rfl T.m_str (by decide +kernel) (bd (ed_var 0))))))
  (sds_one (sd_raise xk rfl T.x_NoText rfl))
  sds_nil)
  (sds_cons (sd_setMk 1 "Reader" nd T.mk_Reader (ok_Reader___init__ T) (hr.mono (by omega)) xk rfl T.mg_Reader T.b_Reader___init__ (ad_cons (ed_var 0) ad_nil))
  (sds_cons (sd_setM 2 nd (em_meth 1 "Reader" ["signs", "at"] ((ok_Reader T 64).2.mc (hr.mono (by omega))) xk (ad_cons ed_int ad_nil)))
  (sds_cons (sd_if (td_cmp (dNe hr) (bd (ed_methN0 (mc_of (cs := ["Reader"]) (mk_Reader_sign T) (hr.mono (by omega))) xk (bd_own 1))) (bd ed_str))
  (sds_one (sd_raise xk rfl T.x_NoText rfl))
  sds_nil)
  (sds_one (sd_ret (ed_var 2)))))))
theorem okE_law_others (T : Txt K mg fa fd ca cc ti) : @FnE P w K mg base ⟨K, tb, cc⟩ CN 1 (fa 23) (fd 23) ["_law_e"] SP_law_others := by
  letI : KC := ⟨K, tb, cc⟩
  have nd := sc_law_others.nd
  refine fn_okE T.F_law_others sc_law_others len_law_others (fun cdv A outer s H p eN hn hr hx => ⟨W_law_others p.1 eN, ?_, fun ds R h => pure_law_others p.1 eN ds R h⟩)
  exact (sds_cons (sd_set 1 nd (ed_new (df_lst (ad_cons (ed_isE (m := "NoCord") hx T.er T.ak hn (by decide) rfl T.m_isinstance rfl (by decide) (ed_var 0)) (ad_cons (ed_isE (m := "NoLine") hx T.er T.ak hn (by decide) rfl T.m_isinstance rfl (by decide) (ed_var 0)) (ad_cons (ed_isE (m := "NoMove") hx T.er T.ak hn (by decide) rfl T.m_isinstance rfl (by decide) (ed_var 0)) (ad_cons (ed_isE (m := "NoNails") hx T.er T.ak hn (by decide) rfl T.m_isinstance rfl (by decide) (ed_var 0)) ad_nil)))))))
  (sds_cons (sd_set 1 nd (ed_op dAdd (bd (ed_var 1)) (bd (ed_new (df_lst (ad_cons (ed_isE (m := "NoName") hx T.er T.ak hn (by decide) rfl T.m_isinstance rfl (by decide) (ed_var 0)) (ad_cons (ed_isE (m := "NoNumber") hx T.er T.ak hn (by decide) rfl T.m_isinstance rfl (by decide) (ed_var 0)) (ad_cons (ed_isE (m := "NoRule") hx T.er T.ak hn (by decide) rfl T.m_isinstance rfl (by decide) (ed_var 0)) (ad_cons (ed_isE (m := "TooMany") hx T.er T.ak hn (by decide) rfl T.m_isinstance rfl (by decide) (ed_var 0)) ad_nil)))))))))
  (sds_one (sd_ret (ed_op dAdd (bd (ed_var 1)) (bd (ed_new (df_lst (ad_cons (ed_isE (m := "TooLong") hx T.er T.ak hn (by decide) rfl T.m_isinstance rfl (by decide) (ed_var 0)) ad_nil)))))))))
theorem ok_law_said (T : Txt K mg fa fd ca cc ti) : FnOk P w K mg base (L2N.CX P w) 70 (fa 24) (fd 24) ["_law_thing"] (@spOf ⟨K, tb, cc⟩ mg SP_law_said) := by
  letI : KC := ⟨K, tb, cc⟩
  have nd := sc_law_said.nd
  refine fn_ok T.F_law_said sc_law_said len_law_said (fun cdv A outer s H E hr xk => ⟨W_law_said, ?_, pure_law_said⟩)
  exact (sds_cons (sd_set 1 nd ed_non)
  (sds_cons (sd_tryA 2 1 (ok_read T) (hr.mono (by omega)) rfl T.g_read T.F_read.kp T.b_read (fun _ _ => (ad_cons (ed_var 0) ad_nil)) T.er T.ak (by decide) (fun eA eN _ hn hx => (sds_cons (sd_if (td_w (wd_or (td_not (td_val (bd (ed_isE (m := "NoText") hx T.er T.ak hn (by decide) rfl T.m_isinstance rfl (by decide) (ed_var 2))))) (wd_or (td_not (td_val (bd (ed_isV hx T.er hn rfl T.m_isinstance rfl T.m_ValueError (ed_var 2))))) (wd_or1 (td_cmp dInB (bd ed_bl) (bd (ed_callE hx hn (okE_law_others T) (roomH_mark (hr.mono (by omega))) rfl T.g_law_others T.F_law_others.kp T.b_law_others (ad_cons (ed_var 2) ad_nil))))))))
  (sds_one (sd_ret ed_str))
  sds_nil)
  (sds_one (sd_ret ed_non)))) rfl (hN := nd))
  (sds_one (sd_ret (ed_var 1)))))
theorem ok_law_count (T : Txt K mg fa fd ca cc ti) (n : Nat) : FnOk P w K mg base (L2N.CX P w) (1 + n) (fa 25) (fd 25) ["_law_parts"] (@spOf ⟨K, tb, cc⟩ mg (@SP_law_count n)) := by
  letI : KC := ⟨K, tb, cc⟩
  have nd := sc_law_count.nd
  induction n with
  | zero => exact fn_no no_law_count
  | succ n ih =>
    refine fn_ok (k := 1 + n) T.F_law_count sc_law_count (len_law_count (n + 1)) (fun cdv A outer s H E hr xk => ⟨W_law_count (SP_law_count n), ?_, pure_law_count n⟩)
    exact (sds_cons (sd_set 1 nd ed_int)
      (sds_cons (sd_for xk rfl (id_list (ed_var 0)) (gd_name 2 nd)
      (sds_one (sd_if (td_cmp (dEq hr) (bd (ed_ix (bd (ed_var 2)) (bd ed_int))) (bd ed_str))
      (sds_one (sd_set 1 nd (ed_op dAdd (bd (ed_var 1)) (bd ed_int))))
      (sds_one (sd_if (td_cmp (dEq hr) (bd (ed_ix (bd (ed_var 2)) (bd ed_int))) (bd ed_str))
      (sds_one (sd_set 1 nd (ed_op dAdd (bd (ed_var 1)) (bd (ed_op dMul (bd (ed_callB cAbs rfl T.m_abs (by decide +kernel) (ab_cons (bd (ed_ix (bd (ed_var 2)) (bd ed_int))) ab_nil))) (bd (ed_call ih (hr.mono (by omega)) xk rfl T.g_law_count T.F_law_count.kp T.b_law_count (ad_cons (ed_ix (bd (ed_var 2)) (bd ed_int)) ad_nil))))))))
      (sds_one (sd_set 1 nd (ed_op dAdd (bd (ed_var 1)) (bd (ed_op dMul (bd ed_int) (bd (ed_op dAdd (bd (ed_call ih (hr.mono (by omega)) xk rfl T.g_law_count T.F_law_count.kp T.b_law_count (ad_cons (ed_ix (bd (ed_var 2)) (bd ed_int)) ad_nil))) (bd (ed_call ih (hr.mono (by omega)) xk rfl T.g_law_count T.F_law_count.kp T.b_law_count (ad_cons (ed_ix (bd (ed_var 2)) (bd ed_int)) ad_nil)))))))))))))))
      (sds_one (sd_ret (ed_var 1)))))
theorem ok_pieces (T : Txt K mg fa fd ca cc ti) (n : Nat) : ∀ c ∈ (["Piece", "Parts", "Times", "Back"] : List Str), MK P w K mg base (1 + n) "pieces" (cc c) (@spOf ⟨K, tb, cc⟩ mg (SPc c (SP_pieces n))) := by
  letI : KC := ⟨K, tb, cc⟩
  have nd0 := sc_Piece_pieces.nd
  have nd1 := sc_Parts_pieces.nd
  have nd2 := sc_Times_pieces.nd
  have nd3 := sc_Back_pieces.nd
  induction n with
  | zero => exact (allM_cons ⟨_, _, _, T.cl_Piece, T.M_Piece_pieces, fn_noC no_pieces, T.b_Piece_pieces⟩ (allM_cons ⟨_, _, _, T.cl_Parts, T.M_Parts_pieces, fn_noC no_pieces, T.b_Parts_pieces⟩ (allM_cons ⟨_, _, _, T.cl_Times, T.M_Times_pieces, fn_noC no_pieces, T.b_Times_pieces⟩ (allM_cons ⟨_, _, _, T.cl_Back, T.M_Back_pieces, fn_noC no_pieces, T.b_Back_pieces⟩ allM_nil))))
  | succ n ih =>
    refine allM_cons ⟨_, _, _, T.cl_Piece, T.M_Piece_pieces, ?_, T.b_Piece_pieces⟩ ?_
    · have nd := nd0
      refine fn_ok (k := 1 + n) T.F_Piece_pieces sc_Piece_pieces (len_Piece_pieces (n + 1)) (fun cdv A outer s H E hr xk => ⟨W_Piece_pieces (SP_pieces n), ?_, pure_Piece_pieces n⟩)
      exact (sds_one (sd_ret ed_int))
    refine allM_cons ⟨_, _, _, T.cl_Parts, T.M_Parts_pieces, ?_, T.b_Parts_pieces⟩ ?_
    · have nd := nd1
      refine fn_ok (k := 1 + n) T.F_Parts_pieces sc_Parts_pieces (len_Parts_pieces (n + 1)) (fun cdv A outer s H E hr xk => ⟨W_Parts_pieces (SP_pieces n), ?_, pure_Parts_pieces n⟩)
      exact (sds_one (sd_ret (ed_callB (cSum rfl) rfl T.m_sum (by decide +kernel) (ab_cons (bd (ed_new (df_lc rfl nd (id_list (ed_fld "Parts" ["parts"] 0 T.cl_Parts T.na_Parts_parts (bd (ed_var 0)))) (blkOk_by (own := [("part", 1)]) (N := N_Parts_pieces) (sc := defScope s_Parts_pieces) (by decide +kernel)) (fun _ _ _ _ _ => (gd_name 1 nd)) (fun _ _ _ _ _ => (ed_methN0 (mc_of (cs := ["Piece", "Parts", "Times", "Back"]) ih (hr.mono (by omega))) xkb (bd (ed_var 1))))))) ab_nil))))
    refine allM_cons ⟨_, _, _, T.cl_Times, T.M_Times_pieces, ?_, T.b_Times_pieces⟩ ?_
    · have nd := nd2
      refine fn_ok (k := 1 + n) T.F_Times_pieces sc_Times_pieces (len_Times_pieces (n + 1)) (fun cdv A outer s H E hr xk => ⟨W_Times_pieces (SP_pieces n), ?_, pure_Times_pieces n⟩)
      exact (sds_one (sd_ret (ed_op dMul (bd (ed_methN0 (mc_of (cs := ["Piece", "Parts", "Times", "Back"]) ih (hr.mono (by omega))) xk (bd (ed_fld "Times" ["body", "number"] 0 T.cl_Times T.na_Times_body (bd (ed_var 0)))))) (bd (ed_callB cAbs rfl T.m_abs (by decide +kernel) (ab_cons (bd (ed_fld "Times" ["body", "number"] 1 T.cl_Times T.na_Times_number (bd (ed_var 0)))) ab_nil))))))
    refine allM_cons ⟨_, _, _, T.cl_Back, T.M_Back_pieces, ?_, T.b_Back_pieces⟩ ?_
    · have nd := nd3
      refine fn_ok (k := 1 + n) T.F_Back_pieces sc_Back_pieces (len_Back_pieces (n + 1)) (fun cdv A outer s H E hr xk => ⟨W_Back_pieces (SP_pieces n), ?_, pure_Back_pieces n⟩)
      exact (sds_one (sd_ret (ed_op dMul (bd ed_int) (bd (ed_op dAdd (bd (ed_methN0 (mc_of (cs := ["Piece", "Parts", "Times", "Back"]) ih (hr.mono (by omega))) xk (bd (ed_fld "Back" ["one", "other"] 0 T.cl_Back T.na_Back_one (bd (ed_var 0)))))) (bd (ed_methN0 (mc_of (cs := ["Piece", "Parts", "Times", "Back"]) ih (hr.mono (by omega))) xk (bd (ed_fld "Back" ["one", "other"] 1 T.cl_Back T.na_Back_other (bd (ed_var 0)))))))))))
    exact allM_nil
theorem ok_law_right (T : Txt K mg fa fd ca cc ti) : FnOk P w K mg base (L2N.CX P w) 1 (fa 30) (fd 30) ["_law_found", "_law_due"] (@spOf ⟨K, tb, cc⟩ mg SP_law_right) := by
  letI : KC := ⟨K, tb, cc⟩
  have nd := sc_law_right.nd
  refine fn_ok T.F_law_right sc_law_right len_law_right (fun cdv A outer s H E hr xk => ⟨W_law_right, ?_, pure_law_right⟩)
  exact (sds_cons (sd_if (td_w (wd_or (td_not (td_val (bd (ed_isT rfl T.m_isinstance rfl T.m_list (by decide +kernel) (bd (ed_var 0)))))) (wd_or1 (td_cmp (dNe hr) (bd (ed_callB cLen rfl T.m_len (by decide +kernel) (ab_cons (bd (ed_var 0)) ab_nil))) (bd (ed_callB cLen rfl T.m_len (by decide +kernel) (ab_cons (bd (ed_var 1)) ab_nil)))))))
  (sds_one (sd_ret ed_bl))
  sds_nil)
  (sds_cons (sd_for xk rfl (id_zip rfl T.m_zip (ed_var 0) (ed_var 1)) (gd_tup rfl (gds_cons (gd_name 2 nd) (gds_cons (gd_name 3 nd) gds_nil)))
  (sds_cons (sd_if (td_w (wd_or (td_not (td_val (bd (ed_isT rfl T.m_isinstance rfl T.m_tuple (by decide +kernel) (bd (ed_var 2)))))) (wd_or (td_cmp (dNe hr) (bd (ed_callB cLen rfl T.m_len (by decide +kernel) (ab_cons (bd (ed_var 2)) ab_nil))) (bd ed_int)) (wd_or1 (td_not (td_val (bd (ed_isT rfl T.m_isinstance rfl T.m_str (by decide +kernel) (bd (ed_ix (bd (ed_var 2)) (bd ed_int)))))))))))
  (sds_one (sd_ret ed_bl))
  sds_nil)
  (sds_one (sd_if (td_w (wd_or (td_not (td_val (bd (ed_isT rfl T.m_isinstance rfl T.m_int (by decide +kernel) (bd (ed_ix (bd (ed_var 2)) (bd ed_int))))))) (wd_or (td_val (bd (ed_isT rfl T.m_isinstance rfl T.m_bool (by decide +kernel) (bd (ed_ix (bd (ed_var 2)) (bd ed_int)))))) (wd_or1 (td_cmp (dNe hr) (bd (ed_var 2)) (bd (ed_var 3)))))))
  (sds_one (sd_ret ed_bl))
  sds_nil))))
  (sds_one (sd_ret ed_bl))))
theorem ok_law_contrary (T : Txt K mg fa fd ca cc ti) : FnOk P w K mg base (L2N.CX P w) 1 (fa 31) (fd 31) ["_law_cord_here"] (@spOf ⟨K, tb, cc⟩ mg SP_law_contrary) := by
  letI : KC := ⟨K, tb, cc⟩
  have nd := sc_law_contrary.nd
  refine fn_ok T.F_law_contrary sc_law_contrary len_law_contrary (fun cdv A outer s H E hr xk => ⟨W_law_contrary, ?_, pure_law_contrary⟩)
  exact (sds_one (sd_retF (df_lc rfl nd (id_rev rfl T.m_reversed (ed_var 0)) (blkOk_by (own := [("_law_nail", 1), ("_law_turns", 2)]) (N := N_law_contrary) (sc := defScope s_law_contrary) (by decide +kernel)) (fun _ _ _ _ _ => (gd_tup rfl (gds_cons (gd_name 1 nd) (gds_cons (gd_name 2 nd) gds_nil)))) (fun _ _ _ _ _ => (ed_tup (ad_cons (ed_var 1) (ad_cons (ed_un un_neg (ed_var 2)) ad_nil)))))))
theorem ok_law_laid (T : Txt K mg fa fd ca cc ti) (n : Nat) : FnOk P w K mg base (L2N.CX P w) (2 + n) (fa 32) (fd 32) ["_law_parts"] (@spOf ⟨K, tb, cc⟩ mg (@SP_law_laid n)) := by
  letI : KC := ⟨K, tb, cc⟩
  have nd := sc_law_laid.nd
  induction n with
  | zero => exact fn_no no_law_laid
  | succ n ih =>
    refine fn_ok (k := 2 + n) T.F_law_laid sc_law_laid (len_law_laid (n + 1)) (fun cdv A outer s H E hr xk => ⟨W_law_laid (SP_law_laid n), ?_, pure_law_laid n⟩)
    exact (sds_cons (sd_setF 1 nd (df_lst ad_nil))
      (sds_cons (sd_for xk rfl (id_list (ed_var 0)) (gd_name 2 nd)
      (sds_one (sd_if (td_cmp (dEq hr) (bd (ed_ix (bd (ed_var 2)) (bd ed_int))) (bd ed_str))
      (sds_one (sd_mut 1 mApp PySem.F.slot_list_append PySem.F.type_list_append (ad_cons (ed_tup (ad_cons (ed_ix (bd (ed_var 2)) (bd ed_int)) (ad_cons (ed_ix (bd (ed_var 2)) (bd ed_int)) ad_nil))) ad_nil)))
      (sds_one (sd_if (td_cmp (dEq hr) (bd (ed_ix (bd (ed_var 2)) (bd ed_int))) (bd ed_str))
      (sds_cons (sd_set 3 nd (ed_call ih (hr.mono (by omega)) xk rfl T.g_law_laid T.F_law_laid.kp T.b_law_laid (ad_cons (ed_ix (bd (ed_var 2)) (bd ed_int)) ad_nil)))
      (sds_cons (sd_set 4 nd (ed_call ih (hr.mono (by omega)) xk rfl T.g_law_laid T.F_law_laid.kp T.b_law_laid (ad_cons (ed_ix (bd (ed_var 2)) (bd ed_int)) ad_nil)))
      (sds_cons (sd_setF 1 nd (df_op fCat (bd (ed_op dAdd (bd_own 1) (bd (ed_var 3)))) (bd (ed_var 4))))
      (sds_one (sd_setF 1 nd (df_op fCat (bd (ed_op dAdd (bd_own 1) (bd (ed_call (ok_law_contrary T) (hr.mono (by omega)) xk rfl T.g_law_contrary T.F_law_contrary.kp T.b_law_contrary (ad_cons (ed_var 3) ad_nil))))) (bd (ed_call (ok_law_contrary T) (hr.mono (by omega)) xk rfl T.g_law_contrary T.F_law_contrary.kp T.b_law_contrary (ad_cons (ed_var 4) ad_nil)))))))))
      (sds_one (sd_if (td_cmp dGt (bd (ed_ix (bd (ed_var 2)) (bd ed_int))) (bd ed_int))
      (sds_one (sd_setF 1 nd (df_op fCat (bd_own 1) (bd (ed_op dMul (bd (ed_call ih (hr.mono (by omega)) xk rfl T.g_law_laid T.F_law_laid.kp T.b_law_laid (ad_cons (ed_ix (bd (ed_var 2)) (bd ed_int)) ad_nil))) (bd (ed_callB (cMin rfl) rfl T.m_min (by decide +kernel) (ab_cons (bd (ed_ix (bd (ed_var 2)) (bd ed_int))) (ab_cons (bd ed_int) ab_nil)))))))))
      (sds_one (sd_if (td_cmp dLt (bd (ed_ix (bd (ed_var 2)) (bd ed_int))) (bd ed_int))
      (sds_cons (sd_set 5 nd (ed_call (ok_law_contrary T) (hr.mono (by omega)) xk rfl T.g_law_contrary T.F_law_contrary.kp T.b_law_contrary (ad_cons (ed_call ih (hr.mono (by omega)) xk rfl T.g_law_laid T.F_law_laid.kp T.b_law_laid (ad_cons (ed_ix (bd (ed_var 2)) (bd ed_int)) ad_nil)) ad_nil)))
      (sds_one (sd_setF 1 nd (df_op fCat (bd_own 1) (bd (ed_op dMul (bd (ed_var 5)) (bd (ed_callB (cMin rfl) rfl T.m_min (by decide +kernel) (ab_cons (bd (ed_un un_neg (ed_ix (bd (ed_var 2)) (bd ed_int)))) (ab_cons (bd ed_int) ab_nil))))))))))
      sds_nil)))))))))
      (sds_one (sd_retOwn 1))))
theorem ok_contrary (T : Txt K mg fa fd ca cc ti) : FnOk P w K mg base (L2N.CX P w) 1 (fa 33) (fd 33) ["cord"] (@spOf ⟨K, tb, cc⟩ mg SP_contrary) := by
  letI : KC := ⟨K, tb, cc⟩
  have nd := sc_contrary.nd
  refine fn_ok T.F_contrary sc_contrary len_contrary (fun cdv A outer s H E hr xk => ⟨W_contrary, ?_, pure_contrary⟩)
  exact (sds_one (sd_retF (df_lc rfl nd (id_rev rfl T.m_reversed (ed_var 0)) (blkOk_by (own := [("nail", 1), ("turns", 2)]) (N := N_contrary) (sc := defScope s_contrary) (by decide +kernel)) (fun _ _ _ _ _ => (gd_tup rfl (gds_cons (gd_name 1 nd) (gds_cons (gd_name 2 nd) gds_nil)))) (fun _ _ _ _ _ => (ed_tup (ad_cons (ed_var 1) (ad_cons (ed_un un_neg (ed_var 2)) ad_nil)))))))
theorem ok_laid (T : Txt K mg fa fd ca cc ti) (n : Nat) : ∀ c ∈ (["Piece", "Parts", "Times", "Back"] : List Str), MK P w K mg base (66 + n) "laid" (cc c) (@spOf ⟨K, tb, cc⟩ mg (SPc c (SP_laid n))) := by
  letI : KC := ⟨K, tb, cc⟩
  have nd0 := sc_Piece_laid.nd
  have nd1 := sc_Parts_laid.nd
  have nd2 := sc_Times_laid.nd
  have nd3 := sc_Back_laid.nd
  induction n with
  | zero => exact (allM_cons ⟨_, _, _, T.cl_Piece, T.M_Piece_laid, fn_noC no_laid, T.b_Piece_laid⟩ (allM_cons ⟨_, _, _, T.cl_Parts, T.M_Parts_laid, fn_noC no_laid, T.b_Parts_laid⟩ (allM_cons ⟨_, _, _, T.cl_Times, T.M_Times_laid, fn_noC no_laid, T.b_Times_laid⟩ (allM_cons ⟨_, _, _, T.cl_Back, T.M_Back_laid, fn_noC no_laid, T.b_Back_laid⟩ allM_nil))))
  | succ n ih =>
    refine allM_cons ⟨_, _, _, T.cl_Piece, T.M_Piece_laid, ?_, T.b_Piece_laid⟩ ?_
    · have nd := nd0
      refine fn_ok (k := 66 + n) T.F_Piece_laid sc_Piece_laid (len_Piece_laid (n + 1)) (fun cdv A outer s H E hr xk => ⟨W_Piece_laid (SP_laid n), ?_, pure_Piece_laid n⟩)
      exact (sds_one (sd_retF (df_lst (ad_cons (ed_tup (ad_cons (ed_fld "Piece" ["nail", "turns"] 0 T.cl_Piece T.na_Piece_nail (bd (ed_var 0))) (ad_cons (ed_fld "Piece" ["nail", "turns"] 1 T.cl_Piece T.na_Piece_turns (bd (ed_var 0))) ad_nil))) ad_nil))))
    refine allM_cons ⟨_, _, _, T.cl_Parts, T.M_Parts_laid, ?_, T.b_Parts_laid⟩ ?_
    · have nd := nd1
      refine fn_ok (k := 66 + n) T.F_Parts_laid sc_Parts_laid (len_Parts_laid (n + 1)) (fun cdv A outer s H E hr xk => ⟨W_Parts_laid (SP_laid n), ?_, pure_Parts_laid n⟩)
      exact (sds_cons (sd_setF 1 nd (df_lst ad_nil))
        (sds_cons (sd_for xk rfl (id_list (ed_fld "Parts" ["parts"] 0 T.cl_Parts T.na_Parts_parts (bd (ed_var 0)))) (gd_name 2 nd)
        (sds_one (sd_mut 1 mExt PySem.F.slot_list_extend PySem.F.type_list_extend (ad_cons (ed_meth0 (mc_of (cs := ["Piece", "Parts", "Times", "Back"]) ih (hr.mono (by omega))) xk (ed_var 2)) ad_nil))))
        (sds_one (sd_retOwn 1))))
    refine allM_cons ⟨_, _, _, T.cl_Times, T.M_Times_laid, ?_, T.b_Times_laid⟩ ?_
    · have nd := nd2
      refine fn_ok (k := 66 + n) T.F_Times_laid sc_Times_laid (len_Times_laid (n + 1)) (fun cdv A outer s H E hr xk => ⟨W_Times_laid (SP_laid n), ?_, pure_Times_laid n⟩)
      exact (sds_cons (sd_if (td_cmp (dEq hr) (bd (ed_methN0 (mc_of (cs := ["Piece", "Parts", "Times", "Back"]) (ok_pieces T 64) (hr.mono (by omega))) xk (bd (ed_var 0)))) (bd ed_int))
        (sds_one (sd_retF (df_lst ad_nil)))
        sds_nil)
        (sds_cons (sd_set 1 nd (ed_meth0 (mc_of (cs := ["Piece", "Parts", "Times", "Back"]) ih (hr.mono (by omega))) xk (ed_fld "Times" ["body", "number"] 0 T.cl_Times T.na_Times_body (bd (ed_var 0)))))
        (sds_cons (sd_if (td_cmp dLt (bd (ed_fld "Times" ["body", "number"] 1 T.cl_Times T.na_Times_number (bd (ed_var 0)))) (bd ed_int))
        (sds_one (sd_set 1 nd (ed_call (ok_contrary T) (hr.mono (by omega)) xk rfl T.g_contrary T.F_contrary.kp T.b_contrary (ad_cons (ed_var 1) ad_nil))))
        sds_nil)
        (sds_one (sd_retF (df_op fRep (bd (ed_var 1)) (bd (ed_callB cAbs rfl T.m_abs (by decide +kernel) (ab_cons (bd (ed_fld "Times" ["body", "number"] 1 T.cl_Times T.na_Times_number (bd (ed_var 0)))) ab_nil)))))))))
    refine allM_cons ⟨_, _, _, T.cl_Back, T.M_Back_laid, ?_, T.b_Back_laid⟩ ?_
    · have nd := nd3
      refine fn_ok (k := 66 + n) T.F_Back_laid sc_Back_laid (len_Back_laid (n + 1)) (fun cdv A outer s H E hr xk => ⟨W_Back_laid (SP_laid n), ?_, pure_Back_laid n⟩)
      exact (sds_cons (sd_set 1 nd (ed_meth0 (mc_of (cs := ["Piece", "Parts", "Times", "Back"]) ih (hr.mono (by omega))) xk (ed_fld "Back" ["one", "other"] 0 T.cl_Back T.na_Back_one (bd (ed_var 0)))))
        (sds_cons (sd_set 2 nd (ed_meth0 (mc_of (cs := ["Piece", "Parts", "Times", "Back"]) ih (hr.mono (by omega))) xk (ed_fld "Back" ["one", "other"] 1 T.cl_Back T.na_Back_other (bd (ed_var 0)))))
        (sds_one (sd_retF (df_op fCat (bd (ed_op dAdd (bd (ed_op dAdd (bd (ed_var 1)) (bd (ed_var 2)))) (bd (ed_call (ok_contrary T) (hr.mono (by omega)) xk rfl T.g_contrary T.F_contrary.kp T.b_contrary (ad_cons (ed_var 1) ad_nil))))) (bd (ed_call (ok_contrary T) (hr.mono (by omega)) xk rfl T.g_contrary T.F_contrary.kp T.b_contrary (ad_cons (ed_var 2) ad_nil))))))))
    exact allM_nil
theorem ok_Term_cord (T : Txt K mg fa fd ca cc ti) : FnOk P w K mg base (L2N.CX P w) 131 (fa 38) (fd 38) ["self"] (@spOf ⟨K, tb, cc⟩ mg SP_Term_cord) := by
  letI : KC := ⟨K, tb, cc⟩
  have nd := sc_Term_cord.nd
  refine fn_ok T.F_Term_cord sc_Term_cord len_Term_cord (fun cdv A outer s H E hr xk => ⟨W_Term_cord, ?_, pure_Term_cord⟩)
  exact (sds_cons (sd_if (td_cmp dGt (bd (ed_methN0 (mc_of (cs := ["Piece", "Parts", "Times", "Back"]) (ok_pieces T 64) (hr.mono (by omega))) xk (bd (ed_var 0)))) (bd (ed_globI rfl T.c_MOST)))
  (sds_one (sd_raise xk rfl T.x_TooLong rfl))
  sds_nil)
  (sds_one (sd_retF (df_meth0 (mc_of (cs := ["Piece", "Parts", "Times", "Back"]) (ok_laid T 64) (hr.mono (by omega))) xk (ed_var 0)))))
theorem mk_cord (T : Txt K mg fa fd ca cc ti) : ∀ c ∈ (["Piece", "Parts", "Times", "Back"] : List Str), MK P w K mg base 131 "cord" (cc c) (@spOf ⟨K, tb, cc⟩ mg (SPc c SP_Term_cord)) := by
  letI : KC := ⟨K, tb, cc⟩
  exact (allM_cons ⟨_, _, _, T.cl_Piece, T.M_cord_Piece, fn_c (ok_Term_cord T), T.b_Term_cord⟩ (allM_cons ⟨_, _, _, T.cl_Parts, T.M_cord_Parts, fn_c (ok_Term_cord T), T.b_Term_cord⟩ (allM_cons ⟨_, _, _, T.cl_Times, T.M_cord_Times, fn_c (ok_Term_cord T), T.b_Term_cord⟩ (allM_cons ⟨_, _, _, T.cl_Back, T.M_cord_Back, fn_c (ok_Term_cord T), T.b_Term_cord⟩ allM_nil))))
theorem ok_law_same (T : Txt K mg fa fd ca cc ti) : FnOk P w K mg base (L2N.CX P w) 132 (fa 39) (fd 39) ["_law_words_here"] (@spOf ⟨K, tb, cc⟩ mg SP_law_same) := by
  letI : KC := ⟨K, tb, cc⟩
  have nd := sc_law_same.nd
  refine fn_ok T.F_law_same sc_law_same len_law_same (fun cdv A outer s H E hr xk => ⟨W_law_same, ?_, pure_law_same⟩)
  exact (sds_cons (sd_set 1 nd (ed_call (ok_law_read T) (hr.mono (by omega)) xk rfl T.g_law_read T.F_law_read.kp T.b_law_read (ad_cons (ed_var 0) ad_nil)))
  (sds_cons (sd_set 2 nd (ed_call (ok_law_said T) (hr.mono (by omega)) xk rfl T.g_law_said T.F_law_said.kp T.b_law_said (ad_cons (ed_var 0) ad_nil)))
  (sds_cons (sd_if (td_w (wd_or (td_cmp dIsN (bd (ed_var 1)) (bd ed_non)) (wd_or (td_cmp dIsN (bd (ed_var 2)) (bd ed_non)) (wd_or1 (td_cmp (dEqO hr T.eq_Parts) (bd (ed_var 2)) (bd ed_str))))))
  (sds_one (sd_ret (ed_and (ed_cmp dIsN (bd (ed_var 1)) (bd ed_non)) (ed_one (ed_cmp dIsN (bd (ed_var 2)) (bd ed_non))))))
  sds_nil)
  (sds_cons (sd_set 3 nd (ed_call (ok_law_count T 64) (hr.mono (by omega)) xk rfl T.g_law_count T.F_law_count.kp T.b_law_count (ad_cons (ed_var 1) ad_nil)))
  (sds_cons (sd_if (td_cmp (dNe hr) (bd (ed_methN0 (mc_of (cs := ["Piece", "Parts", "Times", "Back"]) (ok_pieces T 64) (hr.mono (by omega))) xk (bd (ed_var 2)))) (bd (ed_var 3)))
  (sds_one (sd_ret ed_bl))
  sds_nil)
  (sds_one (sd_ret (ed_or (ed_cmp dGt (bd (ed_var 3)) (bd ed_int)) (ed_one (ed_call (ok_law_right T) (hr.mono (by omega)) xk rfl T.g_law_right T.F_law_right.kp T.b_law_right (ad_cons (ed_meth0 (mc_of (cs := ["Piece", "Parts", "Times", "Back"]) (mk_cord T) (hr.mono (by omega))) xk (ed_var 2)) (ad_cons (ed_call (ok_law_laid T 64) (hr.mono (by omega)) xk rfl T.g_law_laid T.F_law_laid.kp T.b_law_laid (ad_cons (ed_var 1) ad_nil)) ad_nil))))))))))))
theorem ok_law (T : Txt K mg fa fd ca cc ti) : FnOk P w K mg base (L2N.CX P w) 133 (fa 40) (fd 40) ["_law_script"] (@spOf ⟨K, tb, cc⟩ mg SP_law) := by
  letI : KC := ⟨K, tb, cc⟩
  have nd := sc_law.nd
  refine fn_ok T.F_law sc_law len_law (fun cdv A outer s H E hr xk => ⟨W_law, ?_, pure_law⟩)
  exact (sds_cons (sd_set 1 nd (ed_call (ok_law_words T 10) (hr.mono (by omega)) xk rfl T.g_law_words T.F_law_words.kp T.b_law_words (ad_cons (ed_call (ok_law_at T) (hr.mono (by omega)) xk rfl T.g_law_at T.F_law_at.kp T.b_law_at (ad_cons (ed_var 0) (ad_cons ed_int ad_nil))) (ad_cons ed_int (ad_cons ed_int ad_nil)))))
  (sds_cons (sd_if (td_cmp (dEq hr) (bd (ed_op dMod (bd (ed_call (ok_law_at T) (hr.mono (by omega)) xk rfl T.g_law_at T.F_law_at.kp T.b_law_at (ad_cons (ed_var 0) (ad_cons ed_int ad_nil)))) (bd ed_int))) (bd ed_int))
  (sds_one (sd_set 1 nd (ed_call (ok_law_within T) (hr.mono (by omega)) xk rfl T.g_law_within T.F_law_within.kp T.b_law_within (ad_cons (ed_var 1) (ad_cons (ed_op dAdd (bd ed_int) (bd (ed_op dMod (bd (ed_op dDiv (bd (ed_call (ok_law_at T) (hr.mono (by omega)) xk rfl T.g_law_at T.F_law_at.kp T.b_law_at (ad_cons (ed_var 0) (ad_cons ed_int ad_nil)))) (bd ed_int))) (bd ed_int)))) (ad_cons (ed_op dDiv (bd (ed_call (ok_law_at T) (hr.mono (by omega)) xk rfl T.g_law_at T.F_law_at.kp T.b_law_at (ad_cons (ed_var 0) (ad_cons ed_int ad_nil)))) (bd ed_int)) ad_nil))))))
  sds_nil)
  (sds_cons (sd_set 2 nd (ed_op dMod (bd (ed_call (ok_law_at T) (hr.mono (by omega)) xk rfl T.g_law_at T.F_law_at.kp T.b_law_at (ad_cons (ed_var 0) (ad_cons ed_int ad_nil)))) (bd ed_int)))
  (sds_cons (sd_set 3 nd (ed_call (ok_law_spoiled T) (hr.mono (by omega)) xk rfl T.g_law_spoiled T.F_law_spoiled.kp T.b_law_spoiled (ad_cons (ed_var 1) (ad_cons (ed_var 2) (ad_cons (ed_call (ok_law_at T) (hr.mono (by omega)) xk rfl T.g_law_at T.F_law_at.kp T.b_law_at (ad_cons (ed_var 0) (ad_cons ed_int ad_nil))) (ad_cons (ed_call (ok_law_at T) (hr.mono (by omega)) xk rfl T.g_law_at T.F_law_at.kp T.b_law_at (ad_cons (ed_var 0) (ad_cons ed_int ad_nil))) ad_nil))))))
  (sds_cons (sd_for xk rfl (id_range1 rfl T.m_range ed_int) (gd_name 4 nd)
  (sds_one (sd_if (td_w (wd_or (td_not (td_val (bd (ed_call (ok_law_same T) (hr.mono (by omega)) xk rfl T.g_law_same T.F_law_same.kp T.b_law_same (ad_cons (ed_var 1) ad_nil))))) (wd_or1 (td_not (td_val (bd (ed_call (ok_law_same T) (hr.mono (by omega)) xk rfl T.g_law_same T.F_law_same.kp T.b_law_same (ad_cons (ed_var 3) ad_nil))))))))
  (sds_one (sd_ret ed_bl))
  sds_nil)))
  (sds_cons (sd_if (td_cmp (dEq hr) (bd (ed_var 2)) (bd ed_int))
  (sds_cons (sd_set 5 nd (ed_ix (bd (ed_new (df_lst (ad_cons ed_non (ad_cons ed_int (ad_cons ed_bl (ad_cons (ed_new (df_lst (ad_cons (ed_var 1) ad_nil))) (ad_cons (ed_tup (ad_cons ed_str (ad_cons ed_int ad_nil))) (ad_cons ed_dct0 ad_nil))))))))) (bd (ed_op dMod (bd (ed_call (ok_law_at T) (hr.mono (by omega)) xk rfl T.g_law_at T.F_law_at.kp T.b_law_at (ad_cons (ed_var 0) (ad_cons ed_int ad_nil)))) (bd ed_int)))))
  (sds_one (sd_if (td_cmp dIsNotN (bd (ed_call (ok_law_said T) (hr.mono (by omega)) xk rfl T.g_law_said T.F_law_said.kp T.b_law_said (ad_cons (ed_var 5) ad_nil))) (bd ed_non))
  (sds_one (sd_ret ed_bl))
  sds_nil)))
  sds_nil)
  (sds_one (sd_ret (ed_call (ok_law_same T) (hr.mono (by omega)) xk rfl T.g_law_same T.F_law_same.kp T.b_law_same (ad_cons (ed_var 1) ad_nil))))))))))
end
theorem all_mk {l : PySem.W.OpenLaw} {w : World} {K : PySem.W.Frag} {h : Heap} {mg : Str → Option Value} {fl : Addr} (X : K.In h) (G : h.Ns mainGlobals mg) (hfl : mg "law" = some (.ref fl))
    {f0 f1 f2 f3 f4 f5 f6 f7 f8 f9 f10 f11 f12 f13 f14 f15 f16 f17 f18 f19 f20 f21 f22 f23 f24 f25 f26 f27 f28 f29 f30 f31 f32 f33 f34 f35 f36 f37 f38 f39 f40 : Addr}
    {od0 an0 od1 an1 od2 an2 od3 an3 od4 an4 od5 an5 od6 an6 od7 an7 od8 an8 od9 an9 od10 an10 od11 an11 od12 an12 od13 an13 od14 an14 od15 an15 od16 an16 od17 an17 od18 an18 od19 an19 od20 an20 od21 an21 od22 an22 od23 an23 od24 an24 od25 an25 od26 an26 od27 an27 od28 an28 od29 an29 od30 an30 od31 an31 od32 an32 od33 an33 od34 an34 od35 an35 od36 an36 od37 an37 od38 an38 od39 an39 od40 an40 : Option Addr} {sl0 sl1 sl2 sl3 sl4 sl5 sl6 sl7 sl8 sl9 sl10 sl11 sl12 sl13 sl14 sl15 sl16 sl17 sl18 sl19 sl20 sl21 sl22 sl23 sl24 sl25 sl26 sl27 sl28 sl29 sl30 sl31 sl32 sl33 sl34 sl35 sl36 sl37 sl38 sl39 sl40 : Array (Option Value)} {oc0 kV0 dc0 pm0 ct0 cd0 oc1 kV1 dc1 pm1 ct1 cd1 oc2 kV2 dc2 pm2 ct2 cd2 oc3 kV3 dc3 pm3 ct3 cd3 oc4 kV4 dc4 pm4 ct4 cd4 oc5 kV5 dc5 pm5 ct5 cd5 oc6 kV6 dc6 pm6 ct6 cd6 oc7 kV7 dc7 pm7 ct7 cd7 oc8 kV8 dc8 pm8 ct8 cd8 oc9 kV9 dc9 pm9 ct9 cd9 oc10 kV10 dc10 pm10 ct10 cd10 oc11 kV11 dc11 pm11 ct11 cd11 oc12 kV12 dc12 pm12 ct12 cd12 oc13 kV13 dc13 pm13 ct13 cd13 oc14 kV14 dc14 pm14 ct14 cd14 oc15 kV15 dc15 pm15 ct15 cd15 oc16 kV16 dc16 pm16 ct16 cd16 oc17 kV17 dc17 pm17 ct17 cd17 oc18 kV18 dc18 pm18 ct18 cd18 oc19 kV19 dc19 pm19 ct19 cd19 oc20 kV20 dc20 pm20 ct20 cd20 oc21 kV21 dc21 pm21 ct21 cd21 oc22 kV22 dc22 pm22 ct22 cd22 oc23 kV23 dc23 pm23 ct23 cd23 oc24 kV24 dc24 pm24 ct24 cd24 oc25 kV25 dc25 pm25 ct25 cd25 oc26 kV26 dc26 pm26 ct26 cd26 oc27 kV27 dc27 pm27 ct27 cd27 oc28 kV28 dc28 pm28 ct28 cd28 oc29 kV29 dc29 pm29 ct29 cd29 oc30 kV30 dc30 pm30 ct30 cd30 oc31 kV31 dc31 pm31 ct31 cd31 oc32 kV32 dc32 pm32 ct32 cd32 oc33 kV33 dc33 pm33 ct33 cd33 oc34 kV34 dc34 pm34 ct34 cd34 oc35 kV35 dc35 pm35 ct35 cd35 oc36 kV36 dc36 pm36 ct36 cd36 oc37 kV37 dc37 pm37 ct37 cd37 oc38 kV38 dc38 pm38 ct38 cd38 oc39 kV39 dc39 pm39 ct39 cd39 oc40 kV40 dc40 pm40 ct40 cd40 : Value}
    {c0 c1 c2 c3 c4 c5 c6 c7 c8 c9 c10 : Addr}
    {k100 k101 k102 k103 k104 : Addr}
    (aC100 : PySem.W.nsIn K mainGlobals "Piece" = some (some (.ref k100))) (pg100 : PySem.W.plainGet K k100 Str.empty = true) (hd100 : PySem.W.hasDictIn K k100 = true) (po100 : PySem.W.plainOver K k100 = true) (sa100 : PySem.W.findIn K (.ref k100) "__setattr__" = some (some (.builtin "object.__setattr__"))) (mk100 : PySem.W.makesIn K k100 = true) (kc100 : PySem.W.keepIn K (.ref k100) = true)
    (nf100_nail : PySem.W.findIn K (.ref k100) "nail" = some none)
    (nf100_turns : PySem.W.findIn K (.ref k100) "turns" = some none)
    (aC101 : PySem.W.nsIn K mainGlobals "Parts" = some (some (.ref k101))) (pg101 : PySem.W.plainGet K k101 Str.empty = true) (hd101 : PySem.W.hasDictIn K k101 = true) (po101 : PySem.W.plainOver K k101 = true) (sa101 : PySem.W.findIn K (.ref k101) "__setattr__" = some (some (.builtin "object.__setattr__"))) (mk101 : PySem.W.makesIn K k101 = true) (kc101 : PySem.W.keepIn K (.ref k101) = true)
    (nf101_parts : PySem.W.findIn K (.ref k101) "parts" = some none)
    (eqf101 : PySem.W.findIn K (.ref k101) "__eq__" = some (some (.builtin "object.__eq__"))) (eqs101 : PySem.W.subIn K (.ref k101) (.type "object") = some true) (eqt101 : PySem.W.subIn K (.type "str") (.ref k101) = some false)
    (aC102 : PySem.W.nsIn K mainGlobals "Times" = some (some (.ref k102))) (pg102 : PySem.W.plainGet K k102 Str.empty = true) (hd102 : PySem.W.hasDictIn K k102 = true) (po102 : PySem.W.plainOver K k102 = true) (sa102 : PySem.W.findIn K (.ref k102) "__setattr__" = some (some (.builtin "object.__setattr__"))) (mk102 : PySem.W.makesIn K k102 = true) (kc102 : PySem.W.keepIn K (.ref k102) = true)
    (nf102_body : PySem.W.findIn K (.ref k102) "body" = some none)
    (nf102_number : PySem.W.findIn K (.ref k102) "number" = some none)
    (aC103 : PySem.W.nsIn K mainGlobals "Back" = some (some (.ref k103))) (pg103 : PySem.W.plainGet K k103 Str.empty = true) (hd103 : PySem.W.hasDictIn K k103 = true) (po103 : PySem.W.plainOver K k103 = true) (sa103 : PySem.W.findIn K (.ref k103) "__setattr__" = some (some (.builtin "object.__setattr__"))) (mk103 : PySem.W.makesIn K k103 = true) (kc103 : PySem.W.keepIn K (.ref k103) = true)
    (nf103_one : PySem.W.findIn K (.ref k103) "one" = some none)
    (nf103_other : PySem.W.findIn K (.ref k103) "other" = some none)
    (aC104 : PySem.W.nsIn K mainGlobals "Reader" = some (some (.ref k104))) (pg104 : PySem.W.plainGet K k104 Str.empty = true) (hd104 : PySem.W.hasDictIn K k104 = true) (po104 : PySem.W.plainOver K k104 = true) (sa104 : PySem.W.findIn K (.ref k104) "__setattr__" = some (some (.builtin "object.__setattr__"))) (mk104 : PySem.W.makesIn K k104 = true) (kc104 : PySem.W.keepIn K (.ref k104) = true)
    (nf104_signs : PySem.W.findIn K (.ref k104) "signs" = some none)
    (nf104_at : PySem.W.findIn K (.ref k104) "at" = some none)
    (a0 : PySem.W.nsIn K mainGlobals "_law_mix" = some (some (.ref f0))) (l0 : K.lookup f0 = some ⟨oc0, od0, .func (PySem.W.fnOf "_law_mix" "_law_mix" (defArgs s_law_mix) (defBody s_law_mix) (defScope s_law_mix) .none kV0 dc0 pm0 an0 cd0 ct0), sl0⟩) (c0' : PySem.W.codeIn K cd0 "_law_mix" = true) (k0 : PySem.W.keepIn K (.ref f0) = true)
    (a1 : PySem.W.nsIn K mainGlobals "_law_words" = some (some (.ref f1))) (l1 : K.lookup f1 = some ⟨oc1, od1, .func (PySem.W.fnOf "_law_words" "_law_words" (defArgs s_law_words) (defBody s_law_words) (defScope s_law_words) .none kV1 dc1 pm1 an1 cd1 ct1), sl1⟩) (c1' : PySem.W.codeIn K cd1 "_law_words" = true) (k1 : PySem.W.keepIn K (.ref f1) = true)
    (a2 : PySem.W.nsIn K mainGlobals "_law_at" = some (some (.ref f2))) (l2 : K.lookup f2 = some ⟨oc2, od2, .func (PySem.W.fnOf "_law_at" "_law_at" (defArgs s_law_at) (defBody s_law_at) (defScope s_law_at) .none kV2 dc2 pm2 an2 cd2 ct2), sl2⟩) (c2' : PySem.W.codeIn K cd2 "_law_at" = true) (k2 : PySem.W.keepIn K (.ref f2) = true)
    (a3 : PySem.W.nsIn K mainGlobals "_law_within" = some (some (.ref f3))) (l3 : K.lookup f3 = some ⟨oc3, od3, .func (PySem.W.fnOf "_law_within" "_law_within" (defArgs s_law_within) (defBody s_law_within) (defScope s_law_within) .none kV3 dc3 pm3 an3 cd3 ct3), sl3⟩) (c3' : PySem.W.codeIn K cd3 "_law_within" = true) (k3 : PySem.W.keepIn K (.ref f3) = true)
    (a4 : PySem.W.nsIn K mainGlobals "_law_any_sign" = some (some (.ref f4))) (l4 : K.lookup f4 = some ⟨oc4, od4, .func (PySem.W.fnOf "_law_any_sign" "_law_any_sign" (defArgs s_law_any_sign) (defBody s_law_any_sign) (defScope s_law_any_sign) .none kV4 dc4 pm4 an4 cd4 ct4), sl4⟩) (c4' : PySem.W.codeIn K cd4 "_law_any_sign" = true) (k4 : PySem.W.keepIn K (.ref f4) = true)
    (a5 : PySem.W.nsIn K mainGlobals "_law_odd" = some (some (.ref f5))) (l5 : K.lookup f5 = some ⟨oc5, od5, .func (PySem.W.fnOf "_law_odd" "_law_odd" (defArgs s_law_odd) (defBody s_law_odd) (defScope s_law_odd) .none kV5 dc5 pm5 an5 cd5 ct5), sl5⟩) (c5' : PySem.W.codeIn K cd5 "_law_odd" = true) (k5 : PySem.W.keepIn K (.ref f5) = true)
    (a6 : PySem.W.nsIn K mainGlobals "_law_spoiled" = some (some (.ref f6))) (l6 : K.lookup f6 = some ⟨oc6, od6, .func (PySem.W.fnOf "_law_spoiled" "_law_spoiled" (defArgs s_law_spoiled) (defBody s_law_spoiled) (defScope s_law_spoiled) .none kV6 dc6 pm6 an6 cd6 ct6), sl6⟩) (c6' : PySem.W.codeIn K cd6 "_law_spoiled" = true) (k6 : PySem.W.keepIn K (.ref f6) = true)
    (a7 : PySem.W.nsIn K mainGlobals "_law_number" = some (some (.ref f7))) (l7 : K.lookup f7 = some ⟨oc7, od7, .func (PySem.W.fnOf "_law_number" "_law_number" (defArgs s_law_number) (defBody s_law_number) (defScope s_law_number) .none kV7 dc7 pm7 an7 cd7 ct7), sl7⟩) (c7' : PySem.W.codeIn K cd7 "_law_number" = true) (k7 : PySem.W.keepIn K (.ref f7) = true)
    (a8 : PySem.W.nsIn K mainGlobals "_law_bracket" = some (some (.ref f8))) (l8 : K.lookup f8 = some ⟨oc8, od8, .func (PySem.W.fnOf "_law_bracket" "_law_bracket" (defArgs s_law_bracket) (defBody s_law_bracket) (defScope s_law_bracket) .none kV8 dc8 pm8 an8 cd8 ct8), sl8⟩) (c8' : PySem.W.codeIn K cd8 "_law_bracket" = true) (k8 : PySem.W.keepIn K (.ref f8) = true)
    (a9 : PySem.W.nsIn K mainGlobals "_law_row" = some (some (.ref f9))) (l9 : K.lookup f9 = some ⟨oc9, od9, .func (PySem.W.fnOf "_law_row" "_law_row" (defArgs s_law_row) (defBody s_law_row) (defScope s_law_row) .none kV9 dc9 pm9 an9 cd9 ct9), sl9⟩) (c9' : PySem.W.codeIn K cd9 "_law_row" = true) (k9 : PySem.W.keepIn K (.ref f9) = true)
    (a10 : PySem.W.nsIn K mainGlobals "_law_read" = some (some (.ref f10))) (l10 : K.lookup f10 = some ⟨oc10, od10, .func (PySem.W.fnOf "_law_read" "_law_read" (defArgs s_law_read) (defBody s_law_read) (defScope s_law_read) .none kV10 dc10 pm10 an10 cd10 ct10), sl10⟩) (c10' : PySem.W.codeIn K cd10 "_law_read" = true) (k10 : PySem.W.keepIn K (.ref f10) = true)
    (a11_4 : PySem.W.findIn K (.ref k104) "__init__" = some (some (.ref f11)))
    (i11 : PySem.W.isFn K (.ref f11) = true) (l11 : K.lookup f11 = some ⟨oc11, od11, .func (PySem.W.fnOf "__init__" "Reader.__init__" (defArgs s_Reader___init__) (defBody s_Reader___init__) (defScope s_Reader___init__) .none kV11 dc11 pm11 an11 cd11 ct11), sl11⟩) (c11' : PySem.W.codeIn K cd11 "Reader.__init__" = true) (k11 : PySem.W.keepIn K (.ref f11) = true)
    (a12_4 : PySem.W.findIn K (.ref k104) "sign" = some (some (.ref f12)))
    (i12 : PySem.W.isFn K (.ref f12) = true) (l12 : K.lookup f12 = some ⟨oc12, od12, .func (PySem.W.fnOf "sign" "Reader.sign" (defArgs s_Reader_sign) (defBody s_Reader_sign) (defScope s_Reader_sign) .none kV12 dc12 pm12 an12 cd12 ct12), sl12⟩) (c12' : PySem.W.codeIn K cd12 "Reader.sign" = true) (k12 : PySem.W.keepIn K (.ref f12) = true)
    (a13_4 : PySem.W.findIn K (.ref k104) "want" = some (some (.ref f13)))
    (i13 : PySem.W.isFn K (.ref f13) = true) (l13 : K.lookup f13 = some ⟨oc13, od13, .func (PySem.W.fnOf "want" "Reader.want" (defArgs s_Reader_want) (defBody s_Reader_want) (defScope s_Reader_want) .none kV13 dc13 pm13 an13 cd13 ct13), sl13⟩) (c13' : PySem.W.codeIn K cd13 "Reader.want" = true) (k13 : PySem.W.keepIn K (.ref f13) = true)
    (a14_0 : PySem.W.findIn K (.ref k100) "__init__" = some (some (.ref f14)))
    (i14 : PySem.W.isFn K (.ref f14) = true) (l14 : K.lookup f14 = some ⟨oc14, od14, .func (PySem.W.fnOf "__init__" "Piece.__init__" (defArgs s_Piece___init__) (defBody s_Piece___init__) (defScope s_Piece___init__) .none kV14 dc14 pm14 an14 cd14 ct14), sl14⟩) (c14' : PySem.W.codeIn K cd14 "Piece.__init__" = true) (k14 : PySem.W.keepIn K (.ref f14) = true)
    (a15_4 : PySem.W.findIn K (.ref k104) "figures" = some (some (.ref f15)))
    (i15 : PySem.W.isFn K (.ref f15) = true) (l15 : K.lookup f15 = some ⟨oc15, od15, .func (PySem.W.fnOf "figures" "Reader.figures" (defArgs s_Reader_figures) (defBody s_Reader_figures) (defScope s_Reader_figures) .none kV15 dc15 pm15 an15 cd15 ct15), sl15⟩) (c15' : PySem.W.codeIn K cd15 "Reader.figures" = true) (k15 : PySem.W.keepIn K (.ref f15) = true)
    (a16_4 : PySem.W.findIn K (.ref k104) "amount" = some (some (.ref f16)))
    (i16 : PySem.W.isFn K (.ref f16) = true) (l16 : K.lookup f16 = some ⟨oc16, od16, .func (PySem.W.fnOf "amount" "Reader.amount" (defArgs s_Reader_amount) (defBody s_Reader_amount) (defScope s_Reader_amount) .none kV16 dc16 pm16 an16 cd16 ct16), sl16⟩) (c16' : PySem.W.codeIn K cd16 "Reader.amount" = true) (k16 : PySem.W.keepIn K (.ref f16) = true)
    (a17_2 : PySem.W.findIn K (.ref k102) "__init__" = some (some (.ref f17)))
    (i17 : PySem.W.isFn K (.ref f17) = true) (l17 : K.lookup f17 = some ⟨oc17, od17, .func (PySem.W.fnOf "__init__" "Times.__init__" (defArgs s_Times___init__) (defBody s_Times___init__) (defScope s_Times___init__) .none kV17 dc17 pm17 an17 cd17 ct17), sl17⟩) (c17' : PySem.W.codeIn K cd17 "Times.__init__" = true) (k17 : PySem.W.keepIn K (.ref f17) = true)
    (a18_3 : PySem.W.findIn K (.ref k103) "__init__" = some (some (.ref f18)))
    (i18 : PySem.W.isFn K (.ref f18) = true) (l18 : K.lookup f18 = some ⟨oc18, od18, .func (PySem.W.fnOf "__init__" "Back.__init__" (defArgs s_Back___init__) (defBody s_Back___init__) (defScope s_Back___init__) .none kV18 dc18 pm18 an18 cd18 ct18), sl18⟩) (c18' : PySem.W.codeIn K cd18 "Back.__init__" = true) (k18 : PySem.W.keepIn K (.ref f18) = true)
    (a19_1 : PySem.W.findIn K (.ref k101) "__init__" = some (some (.ref f19)))
    (i19 : PySem.W.isFn K (.ref f19) = true) (l19 : K.lookup f19 = some ⟨oc19, od19, .func (PySem.W.fnOf "__init__" "Parts.__init__" (defArgs s_Parts___init__) (defBody s_Parts___init__) (defScope s_Parts___init__) .none kV19 dc19 pm19 an19 cd19 ct19), sl19⟩) (c19' : PySem.W.codeIn K cd19 "Parts.__init__" = true) (k19 : PySem.W.keepIn K (.ref f19) = true)
    (a20_4 : PySem.W.findIn K (.ref k104) "part" = some (some (.ref f20)))
    (i20 : PySem.W.isFn K (.ref f20) = true) (l20 : K.lookup f20 = some ⟨oc20, od20, .func (PySem.W.fnOf "part" "Reader.part" (defArgs s_Reader_part) (defBody s_Reader_part) (defScope s_Reader_part) .none kV20 dc20 pm20 an20 cd20 ct20), sl20⟩) (c20' : PySem.W.codeIn K cd20 "Reader.part" = true) (k20 : PySem.W.keepIn K (.ref f20) = true)
    (a21_4 : PySem.W.findIn K (.ref k104) "row" = some (some (.ref f21)))
    (i21 : PySem.W.isFn K (.ref f21) = true) (l21 : K.lookup f21 = some ⟨oc21, od21, .func (PySem.W.fnOf "row" "Reader.row" (defArgs s_Reader_row) (defBody s_Reader_row) (defScope s_Reader_row) .none kV21 dc21 pm21 an21 cd21 ct21), sl21⟩) (c21' : PySem.W.codeIn K cd21 "Reader.row" = true) (k21 : PySem.W.keepIn K (.ref f21) = true)
    (a22 : PySem.W.nsIn K mainGlobals "read" = some (some (.ref f22))) (l22 : K.lookup f22 = some ⟨oc22, od22, .func (PySem.W.fnOf "read" "read" (defArgs s_read) (defBody s_read) (defScope s_read) .none kV22 dc22 pm22 an22 cd22 ct22), sl22⟩) (c22' : PySem.W.codeIn K cd22 "read" = true) (k22 : PySem.W.keepIn K (.ref f22) = true)
    (a23 : PySem.W.nsIn K mainGlobals "_law_others" = some (some (.ref f23))) (l23 : K.lookup f23 = some ⟨oc23, od23, .func (PySem.W.fnOf "_law_others" "_law_others" (defArgs s_law_others) (defBody s_law_others) (defScope s_law_others) .none kV23 dc23 pm23 an23 cd23 ct23), sl23⟩) (c23' : PySem.W.codeIn K cd23 "_law_others" = true) (k23 : PySem.W.keepIn K (.ref f23) = true)
    (a24 : PySem.W.nsIn K mainGlobals "_law_said" = some (some (.ref f24))) (l24 : K.lookup f24 = some ⟨oc24, od24, .func (PySem.W.fnOf "_law_said" "_law_said" (defArgs s_law_said) (defBody s_law_said) (defScope s_law_said) .none kV24 dc24 pm24 an24 cd24 ct24), sl24⟩) (c24' : PySem.W.codeIn K cd24 "_law_said" = true) (k24 : PySem.W.keepIn K (.ref f24) = true)
    (a25 : PySem.W.nsIn K mainGlobals "_law_count" = some (some (.ref f25))) (l25 : K.lookup f25 = some ⟨oc25, od25, .func (PySem.W.fnOf "_law_count" "_law_count" (defArgs s_law_count) (defBody s_law_count) (defScope s_law_count) .none kV25 dc25 pm25 an25 cd25 ct25), sl25⟩) (c25' : PySem.W.codeIn K cd25 "_law_count" = true) (k25 : PySem.W.keepIn K (.ref f25) = true)
    (a26_0 : PySem.W.findIn K (.ref k100) "pieces" = some (some (.ref f26)))
    (i26 : PySem.W.isFn K (.ref f26) = true) (l26 : K.lookup f26 = some ⟨oc26, od26, .func (PySem.W.fnOf "pieces" "Piece.pieces" (defArgs s_Piece_pieces) (defBody s_Piece_pieces) (defScope s_Piece_pieces) .none kV26 dc26 pm26 an26 cd26 ct26), sl26⟩) (c26' : PySem.W.codeIn K cd26 "Piece.pieces" = true) (k26 : PySem.W.keepIn K (.ref f26) = true)
    (a27_1 : PySem.W.findIn K (.ref k101) "pieces" = some (some (.ref f27)))
    (i27 : PySem.W.isFn K (.ref f27) = true) (l27 : K.lookup f27 = some ⟨oc27, od27, .func (PySem.W.fnOf "pieces" "Parts.pieces" (defArgs s_Parts_pieces) (defBody s_Parts_pieces) (defScope s_Parts_pieces) .none kV27 dc27 pm27 an27 cd27 ct27), sl27⟩) (c27' : PySem.W.codeIn K cd27 "Parts.pieces" = true) (k27 : PySem.W.keepIn K (.ref f27) = true)
    (a28_2 : PySem.W.findIn K (.ref k102) "pieces" = some (some (.ref f28)))
    (i28 : PySem.W.isFn K (.ref f28) = true) (l28 : K.lookup f28 = some ⟨oc28, od28, .func (PySem.W.fnOf "pieces" "Times.pieces" (defArgs s_Times_pieces) (defBody s_Times_pieces) (defScope s_Times_pieces) .none kV28 dc28 pm28 an28 cd28 ct28), sl28⟩) (c28' : PySem.W.codeIn K cd28 "Times.pieces" = true) (k28 : PySem.W.keepIn K (.ref f28) = true)
    (a29_3 : PySem.W.findIn K (.ref k103) "pieces" = some (some (.ref f29)))
    (i29 : PySem.W.isFn K (.ref f29) = true) (l29 : K.lookup f29 = some ⟨oc29, od29, .func (PySem.W.fnOf "pieces" "Back.pieces" (defArgs s_Back_pieces) (defBody s_Back_pieces) (defScope s_Back_pieces) .none kV29 dc29 pm29 an29 cd29 ct29), sl29⟩) (c29' : PySem.W.codeIn K cd29 "Back.pieces" = true) (k29 : PySem.W.keepIn K (.ref f29) = true)
    (a30 : PySem.W.nsIn K mainGlobals "_law_right" = some (some (.ref f30))) (l30 : K.lookup f30 = some ⟨oc30, od30, .func (PySem.W.fnOf "_law_right" "_law_right" (defArgs s_law_right) (defBody s_law_right) (defScope s_law_right) .none kV30 dc30 pm30 an30 cd30 ct30), sl30⟩) (c30' : PySem.W.codeIn K cd30 "_law_right" = true) (k30 : PySem.W.keepIn K (.ref f30) = true)
    (a31 : PySem.W.nsIn K mainGlobals "_law_contrary" = some (some (.ref f31))) (l31 : K.lookup f31 = some ⟨oc31, od31, .func (PySem.W.fnOf "_law_contrary" "_law_contrary" (defArgs s_law_contrary) (defBody s_law_contrary) (defScope s_law_contrary) .none kV31 dc31 pm31 an31 cd31 ct31), sl31⟩) (c31' : PySem.W.codeIn K cd31 "_law_contrary" = true) (k31 : PySem.W.keepIn K (.ref f31) = true)
    (a32 : PySem.W.nsIn K mainGlobals "_law_laid" = some (some (.ref f32))) (l32 : K.lookup f32 = some ⟨oc32, od32, .func (PySem.W.fnOf "_law_laid" "_law_laid" (defArgs s_law_laid) (defBody s_law_laid) (defScope s_law_laid) .none kV32 dc32 pm32 an32 cd32 ct32), sl32⟩) (c32' : PySem.W.codeIn K cd32 "_law_laid" = true) (k32 : PySem.W.keepIn K (.ref f32) = true)
    (a33 : PySem.W.nsIn K mainGlobals "contrary" = some (some (.ref f33))) (l33 : K.lookup f33 = some ⟨oc33, od33, .func (PySem.W.fnOf "contrary" "contrary" (defArgs s_contrary) (defBody s_contrary) (defScope s_contrary) .none kV33 dc33 pm33 an33 cd33 ct33), sl33⟩) (c33' : PySem.W.codeIn K cd33 "contrary" = true) (k33 : PySem.W.keepIn K (.ref f33) = true)
    (a34_0 : PySem.W.findIn K (.ref k100) "laid" = some (some (.ref f34)))
    (i34 : PySem.W.isFn K (.ref f34) = true) (l34 : K.lookup f34 = some ⟨oc34, od34, .func (PySem.W.fnOf "laid" "Piece.laid" (defArgs s_Piece_laid) (defBody s_Piece_laid) (defScope s_Piece_laid) .none kV34 dc34 pm34 an34 cd34 ct34), sl34⟩) (c34' : PySem.W.codeIn K cd34 "Piece.laid" = true) (k34 : PySem.W.keepIn K (.ref f34) = true)
    (a35_1 : PySem.W.findIn K (.ref k101) "laid" = some (some (.ref f35)))
    (i35 : PySem.W.isFn K (.ref f35) = true) (l35 : K.lookup f35 = some ⟨oc35, od35, .func (PySem.W.fnOf "laid" "Parts.laid" (defArgs s_Parts_laid) (defBody s_Parts_laid) (defScope s_Parts_laid) .none kV35 dc35 pm35 an35 cd35 ct35), sl35⟩) (c35' : PySem.W.codeIn K cd35 "Parts.laid" = true) (k35 : PySem.W.keepIn K (.ref f35) = true)
    (a36_2 : PySem.W.findIn K (.ref k102) "laid" = some (some (.ref f36)))
    (i36 : PySem.W.isFn K (.ref f36) = true) (l36 : K.lookup f36 = some ⟨oc36, od36, .func (PySem.W.fnOf "laid" "Times.laid" (defArgs s_Times_laid) (defBody s_Times_laid) (defScope s_Times_laid) .none kV36 dc36 pm36 an36 cd36 ct36), sl36⟩) (c36' : PySem.W.codeIn K cd36 "Times.laid" = true) (k36 : PySem.W.keepIn K (.ref f36) = true)
    (a37_3 : PySem.W.findIn K (.ref k103) "laid" = some (some (.ref f37)))
    (i37 : PySem.W.isFn K (.ref f37) = true) (l37 : K.lookup f37 = some ⟨oc37, od37, .func (PySem.W.fnOf "laid" "Back.laid" (defArgs s_Back_laid) (defBody s_Back_laid) (defScope s_Back_laid) .none kV37 dc37 pm37 an37 cd37 ct37), sl37⟩) (c37' : PySem.W.codeIn K cd37 "Back.laid" = true) (k37 : PySem.W.keepIn K (.ref f37) = true)
    (a38_0 : PySem.W.findIn K (.ref k100) "cord" = some (some (.ref f38)))
    (a38_1 : PySem.W.findIn K (.ref k101) "cord" = some (some (.ref f38)))
    (a38_2 : PySem.W.findIn K (.ref k102) "cord" = some (some (.ref f38)))
    (a38_3 : PySem.W.findIn K (.ref k103) "cord" = some (some (.ref f38)))
    (i38 : PySem.W.isFn K (.ref f38) = true) (l38 : K.lookup f38 = some ⟨oc38, od38, .func (PySem.W.fnOf "cord" "Term.cord" (defArgs s_Term_cord) (defBody s_Term_cord) (defScope s_Term_cord) .none kV38 dc38 pm38 an38 cd38 ct38), sl38⟩) (c38' : PySem.W.codeIn K cd38 "Term.cord" = true) (k38 : PySem.W.keepIn K (.ref f38) = true)
    (a39 : PySem.W.nsIn K mainGlobals "_law_same" = some (some (.ref f39))) (l39 : K.lookup f39 = some ⟨oc39, od39, .func (PySem.W.fnOf "_law_same" "_law_same" (defArgs s_law_same) (defBody s_law_same) (defScope s_law_same) .none kV39 dc39 pm39 an39 cd39 ct39), sl39⟩) (c39' : PySem.W.codeIn K cd39 "_law_same" = true) (k39 : PySem.W.keepIn K (.ref f39) = true)
    (a40 : PySem.W.nsIn K mainGlobals "law" = some (some (.ref f40))) (l40 : K.lookup f40 = some ⟨oc40, od40, .func (PySem.W.fnOf "law" "law" (defArgs s_law) (defBody s_law) (defScope s_law) .none kV40 dc40 pm40 an40 cd40 ct40), sl40⟩) (c40' : PySem.W.codeIn K cd40 "law" = true) (k40 : PySem.W.keepIn K (.ref f40) = true)
    (z_ValueError : PySem.W.nsIn K mainGlobals "ValueError" = some none)
    (z_abs : PySem.W.nsIn K mainGlobals "abs" = some none)
    (z_bool : PySem.W.nsIn K mainGlobals "bool" = some none)
    (z_int : PySem.W.nsIn K mainGlobals "int" = some none)
    (z_isinstance : PySem.W.nsIn K mainGlobals "isinstance" = some none)
    (z_len : PySem.W.nsIn K mainGlobals "len" = some none)
    (z_list : PySem.W.nsIn K mainGlobals "list" = some none)
    (z_min : PySem.W.nsIn K mainGlobals "min" = some none)
    (z_range : PySem.W.nsIn K mainGlobals "range" = some none)
    (z_reversed : PySem.W.nsIn K mainGlobals "reversed" = some none)
    (z_str : PySem.W.nsIn K mainGlobals "str" = some none)
    (z_sum : PySem.W.nsIn K mainGlobals "sum" = some none)
    (z_tuple : PySem.W.nsIn K mainGlobals "tuple" = some none)
    (z_zip : PySem.W.nsIn K mainGlobals "zip" = some none)
    {t_DEEPEST : Tok} (y_DEEPEST : PySem.W.nsIn K mainGlobals "DEEPEST" = some (some (.int 30 t_DEEPEST)))
    {t_FIGURES : Tok} (y_FIGURES : PySem.W.nsIn K mainGlobals "FIGURES" = some (some (.str "0123456789" t_FIGURES)))
    {t_LETTERS : Tok} (y_LETTERS : PySem.W.nsIn K mainGlobals "LETTERS" = some (some (.str "abcdefghijklmnopqrstuvwxyz" t_LETTERS)))
    {t_MOST : Tok} (y_MOST : PySem.W.nsIn K mainGlobals "MOST" = some (some (.int 4000 t_MOST)))
    {t_MOST_FIGURES : Tok} (y_MOST_FIGURES : PySem.W.nsIn K mainGlobals "MOST_FIGURES" = some (some (.int 30 t_MOST_FIGURES)))
    (tn : PySem.W.specialIn K (.builtin "object.__class__") "__get__" = some (some (.builtin "getset_descriptor.__get__"))) (tt : PySem.W.takesIn K (.builtin "object.__class__") = some true)
    (xa0 : PySem.W.nsIn K mainGlobals "HangError" = some (some (.ref c0))) (xd0 : PySem.W.subIn K (.ref c0) (.type "BaseException") = some true) (xe0 : PySem.W.typeIn K (.ref c0) = some (.type "type"))
    (yd0 : PySem.W.hasDictIn K c0 = true)
    (xa1 : PySem.W.nsIn K mainGlobals "NoCord" = some (some (.ref c1))) (xd1 : PySem.W.subIn K (.ref c1) (.type "BaseException") = some true) (xe1 : PySem.W.typeIn K (.ref c1) = some (.type "type"))
    (yd1 : PySem.W.hasDictIn K c1 = true)
    (xa2 : PySem.W.nsIn K mainGlobals "NoLine" = some (some (.ref c2))) (xd2 : PySem.W.subIn K (.ref c2) (.type "BaseException") = some true) (xe2 : PySem.W.typeIn K (.ref c2) = some (.type "type"))
    (yd2 : PySem.W.hasDictIn K c2 = true)
    (xa3 : PySem.W.nsIn K mainGlobals "NoMove" = some (some (.ref c3))) (xd3 : PySem.W.subIn K (.ref c3) (.type "BaseException") = some true) (xe3 : PySem.W.typeIn K (.ref c3) = some (.type "type"))
    (yd3 : PySem.W.hasDictIn K c3 = true)
    (xa4 : PySem.W.nsIn K mainGlobals "NoNails" = some (some (.ref c4))) (xd4 : PySem.W.subIn K (.ref c4) (.type "BaseException") = some true) (xe4 : PySem.W.typeIn K (.ref c4) = some (.type "type"))
    (yd4 : PySem.W.hasDictIn K c4 = true)
    (xa5 : PySem.W.nsIn K mainGlobals "NoName" = some (some (.ref c5))) (xd5 : PySem.W.subIn K (.ref c5) (.type "BaseException") = some true) (xe5 : PySem.W.typeIn K (.ref c5) = some (.type "type"))
    (yd5 : PySem.W.hasDictIn K c5 = true)
    (xa6 : PySem.W.nsIn K mainGlobals "NoNumber" = some (some (.ref c6))) (xd6 : PySem.W.subIn K (.ref c6) (.type "BaseException") = some true) (xe6 : PySem.W.typeIn K (.ref c6) = some (.type "type"))
    (yd6 : PySem.W.hasDictIn K c6 = true)
    (xa7 : PySem.W.nsIn K mainGlobals "NoRule" = some (some (.ref c7))) (xd7 : PySem.W.subIn K (.ref c7) (.type "BaseException") = some true) (xe7 : PySem.W.typeIn K (.ref c7) = some (.type "type"))
    (yd7 : PySem.W.hasDictIn K c7 = true)
    (yd8 : PySem.W.hasDictIn K c8 = true)
    (yd9 : PySem.W.hasDictIn K c9 = true)
    (xa10 : PySem.W.nsIn K mainGlobals "TooMany" = some (some (.ref c10))) (xd10 : PySem.W.subIn K (.ref c10) (.type "BaseException") = some true) (xe10 : PySem.W.typeIn K (.ref c10) = some (.type "type"))
    (yd10 : PySem.W.hasDictIn K c10 = true)
    (xa8 : PySem.W.nsIn K mainGlobals "NoText" = some (some (.ref c8))) (xb8 : PySem.W.excIn K c8 [.type "ValueError", .type "Exception", .type "BaseException", .type "object"] "ValueError.__new__" = true) (xc8 : PySem.W.keepIn K (.ref c8) = true) (xd8 : PySem.W.subIn K (.ref c8) (.type "BaseException") = some true) (xe8 : PySem.W.typeIn K (.ref c8) = some (.type "type"))
    (xa9 : PySem.W.nsIn K mainGlobals "TooLong" = some (some (.ref c9))) (xb9 : PySem.W.excIn K c9 [.type "ValueError", .type "Exception", .type "BaseException", .type "object"] "ValueError.__new__" = true) (xc9 : PySem.W.keepIn K (.ref c9) = true) (xd9 : PySem.W.subIn K (.ref c9) (.type "BaseException") = some true) (xe9 : PySem.W.typeIn K (.ref c9) = some (.type "type"))
    (zg8 : PySem.W.findIn K (.ref c8) "__getattribute__" = some (some (.builtin "BaseException.__getattribute__"))) (zk8 : PySem.W.findIn K (.ref c8) "__getattr__" = some none) (zc8 : PySem.W.findIn K (.ref c8) "__class__" = some (some (.builtin "object.__class__"))) (zm8 : PySem.W.mroIn K c8 (.type "object") = some true) (zv8 : PySem.W.subIn K (.ref c8) (.type "ValueError") = some true)
    (zs8_0 : PySem.W.subIn K (.ref c8) (.ref c0) = some true)
    (zs8_1 : PySem.W.subIn K (.ref c8) (.ref c1) = some false)
    (zs8_2 : PySem.W.subIn K (.ref c8) (.ref c2) = some false)
    (zs8_3 : PySem.W.subIn K (.ref c8) (.ref c3) = some false)
    (zs8_4 : PySem.W.subIn K (.ref c8) (.ref c4) = some false)
    (zs8_5 : PySem.W.subIn K (.ref c8) (.ref c5) = some false)
    (zs8_6 : PySem.W.subIn K (.ref c8) (.ref c6) = some false)
    (zs8_7 : PySem.W.subIn K (.ref c8) (.ref c7) = some false)
    (zs8_8 : PySem.W.subIn K (.ref c8) (.ref c8) = some true)
    (zs8_9 : PySem.W.subIn K (.ref c8) (.ref c9) = some false)
    (zs8_10 : PySem.W.subIn K (.ref c8) (.ref c10) = some false)
    (zg9 : PySem.W.findIn K (.ref c9) "__getattribute__" = some (some (.builtin "BaseException.__getattribute__"))) (zk9 : PySem.W.findIn K (.ref c9) "__getattr__" = some none) (zc9 : PySem.W.findIn K (.ref c9) "__class__" = some (some (.builtin "object.__class__"))) (zm9 : PySem.W.mroIn K c9 (.type "object") = some true) (zv9 : PySem.W.subIn K (.ref c9) (.type "ValueError") = some true)
    (zs9_0 : PySem.W.subIn K (.ref c9) (.ref c0) = some true)
    (zs9_1 : PySem.W.subIn K (.ref c9) (.ref c1) = some false)
    (zs9_2 : PySem.W.subIn K (.ref c9) (.ref c2) = some false)
    (zs9_3 : PySem.W.subIn K (.ref c9) (.ref c3) = some false)
    (zs9_4 : PySem.W.subIn K (.ref c9) (.ref c4) = some false)
    (zs9_5 : PySem.W.subIn K (.ref c9) (.ref c5) = some false)
    (zs9_6 : PySem.W.subIn K (.ref c9) (.ref c6) = some false)
    (zs9_7 : PySem.W.subIn K (.ref c9) (.ref c7) = some false)
    (zs9_8 : PySem.W.subIn K (.ref c9) (.ref c8) = some false)
    (zs9_9 : PySem.W.subIn K (.ref c9) (.ref c9) = some true)
    (zs9_10 : PySem.W.subIn K (.ref c9) (.ref c10) = some false)
    : ∃ fd : FuncData, (∀ (s : Shared) (v : Value), BindsTo s fd ⟨[v], []⟩ [("_law_script", v)]) ∧ ∀ base : Heap, K.In base → base.Ns mainGlobals mg → FnOk l.prog w K mg base (L2N.CX l.prog w) 133 fl fd ["_law_script"] (@spOf ⟨K, [], ccOf [("Piece", k100), ("Parts", k101), ("Times", k102), ("Back", k103), ("Reader", k104)]⟩ mg SP_law) := by
  have e := hfl.symm.trans (PySem.W.mg_of X G a40)
  cases e
  have F0 := fun_mk (st := s_law_mix) l0 c0' k0
  have b0 := F0.binds (ps := ["_law_cell", "_law_k"]) fun _ _ _ _ _ _ us hl => match us, hl with | [_, _], _ => rfl
  have F1 := fun_mk (st := s_law_words) l1 c1' k1
  have b1 := F1.binds (ps := ["_law_cell", "_law_deep", "_law_k"]) fun _ _ _ _ _ _ us hl => match us, hl with | [_, _, _], _ => rfl
  have F2 := fun_mk (st := s_law_at) l2 c2' k2
  have b2 := F2.binds (ps := ["_law_script", "_law_k"]) fun _ _ _ _ _ _ us hl => match us, hl with | [_, _], _ => rfl
  have F3 := fun_mk (st := s_law_within) l3 c3' k3
  have b3 := F3.binds (ps := ["_law_words_here", "_law_many", "_law_cell"]) fun _ _ _ _ _ _ us hl => match us, hl with | [_, _, _], _ => rfl
  have F4 := fun_mk (st := s_law_any_sign) l4 c4' k4
  have b4 := F4.binds (ps := ["_law_cell"]) fun _ _ _ _ _ _ us hl => match us, hl with | [_], _ => rfl
  have F5 := fun_mk (st := s_law_odd) l5 c5' k5
  have b5 := F5.binds (ps := ["_law_cell"]) fun _ _ _ _ _ _ us hl => match us, hl with | [_], _ => rfl
  have F6 := fun_mk (st := s_law_spoiled) l6 c6' k6
  have b6 := F6.binds (ps := ["_law_words_here", "_law_way", "_law_spot", "_law_cell"]) fun _ _ _ _ _ _ us hl => match us, hl with | [_, _, _, _], _ => rfl
  have F7 := fun_mk (st := s_law_number) l7 c7' k7
  have b7 := F7.binds (ps := ["_law_words_here", "_law_at_here"]) fun _ _ _ _ _ _ us hl => match us, hl with | [_, _], _ => rfl
  have F8 := fun_mk (st := s_law_bracket) l8 c8' k8
  have b8 := F8.binds (ps := ["_law_words_here", "_law_at_here", "_law_deep"]) fun _ _ _ _ _ _ us hl => match us, hl with | [_, _, _], _ => rfl
  have F9 := fun_mk (st := s_law_row) l9 c9' k9
  have b9 := F9.binds (ps := ["_law_words_here", "_law_at_here", "_law_deep"]) fun _ _ _ _ _ _ us hl => match us, hl with | [_, _, _], _ => rfl
  have F10 := fun_mk (st := s_law_read) l10 c10' k10
  have b10 := F10.binds (ps := ["_law_words_here"]) fun _ _ _ _ _ _ us hl => match us, hl with | [_], _ => rfl
  have F11 := fun_mk (st := s_Reader___init__) l11 c11' k11
  have b11 := F11.binds (ps := ["self", "signs"]) fun _ _ _ _ _ _ us hl => match us, hl with | [_, _], _ => rfl
  have F12 := fun_mk (st := s_Reader_sign) l12 c12' k12
  have b12 := F12.binds (ps := ["self"]) fun _ _ _ _ _ _ us hl => match us, hl with | [_], _ => rfl
  have F13 := fun_mk (st := s_Reader_want) l13 c13' k13
  have b13 := F13.binds (ps := ["self", "sign"]) fun _ _ _ _ _ _ us hl => match us, hl with | [_, _], _ => rfl
  have F14 := fun_mk (st := s_Piece___init__) l14 c14' k14
  have b14 := F14.binds (ps := ["self", "nail", "turns"]) fun _ _ _ _ _ _ us hl => match us, hl with | [_, _, _], _ => rfl
  have F15 := fun_mk (st := s_Reader_figures) l15 c15' k15
  have b15 := F15.binds (ps := ["self"]) fun _ _ _ _ _ _ us hl => match us, hl with | [_], _ => rfl
  have F16 := fun_mk (st := s_Reader_amount) l16 c16' k16
  have b16 := F16.binds (ps := ["self"]) fun _ _ _ _ _ _ us hl => match us, hl with | [_], _ => rfl
  have F17 := fun_mk (st := s_Times___init__) l17 c17' k17
  have b17 := F17.binds (ps := ["self", "body", "number"]) fun _ _ _ _ _ _ us hl => match us, hl with | [_, _, _], _ => rfl
  have F18 := fun_mk (st := s_Back___init__) l18 c18' k18
  have b18 := F18.binds (ps := ["self", "one", "other"]) fun _ _ _ _ _ _ us hl => match us, hl with | [_, _, _], _ => rfl
  have F19 := fun_mk (st := s_Parts___init__) l19 c19' k19
  have b19 := F19.binds (ps := ["self", "parts"]) fun _ _ _ _ _ _ us hl => match us, hl with | [_, _], _ => rfl
  have F20 := fun_mk (st := s_Reader_part) l20 c20' k20
  have b20 := F20.binds (ps := ["self", "deep"]) fun _ _ _ _ _ _ us hl => match us, hl with | [_, _], _ => rfl
  have F21 := fun_mk (st := s_Reader_row) l21 c21' k21
  have b21 := F21.binds (ps := ["self", "deep"]) fun _ _ _ _ _ _ us hl => match us, hl with | [_, _], _ => rfl
  have F22 := fun_mk (st := s_read) l22 c22' k22
  have b22 := F22.binds (ps := ["text"]) fun _ _ _ _ _ _ us hl => match us, hl with | [_], _ => rfl
  have F23 := fun_mk (st := s_law_others) l23 c23' k23
  have b23 := F23.binds (ps := ["_law_e"]) fun _ _ _ _ _ _ us hl => match us, hl with | [_], _ => rfl
  have F24 := fun_mk (st := s_law_said) l24 c24' k24
  have b24 := F24.binds (ps := ["_law_thing"]) fun _ _ _ _ _ _ us hl => match us, hl with | [_], _ => rfl
  have F25 := fun_mk (st := s_law_count) l25 c25' k25
  have b25 := F25.binds (ps := ["_law_parts"]) fun _ _ _ _ _ _ us hl => match us, hl with | [_], _ => rfl
  have F26 := fun_mk (st := s_Piece_pieces) l26 c26' k26
  have b26 := F26.binds (ps := ["self"]) fun _ _ _ _ _ _ us hl => match us, hl with | [_], _ => rfl
  have F27 := fun_mk (st := s_Parts_pieces) l27 c27' k27
  have b27 := F27.binds (ps := ["self"]) fun _ _ _ _ _ _ us hl => match us, hl with | [_], _ => rfl
  have F28 := fun_mk (st := s_Times_pieces) l28 c28' k28
  have b28 := F28.binds (ps := ["self"]) fun _ _ _ _ _ _ us hl => match us, hl with | [_], _ => rfl
  have F29 := fun_mk (st := s_Back_pieces) l29 c29' k29
  have b29 := F29.binds (ps := ["self"]) fun _ _ _ _ _ _ us hl => match us, hl with | [_], _ => rfl
  have F30 := fun_mk (st := s_law_right) l30 c30' k30
  have b30 := F30.binds (ps := ["_law_found", "_law_due"]) fun _ _ _ _ _ _ us hl => match us, hl with | [_, _], _ => rfl
  have F31 := fun_mk (st := s_law_contrary) l31 c31' k31
  have b31 := F31.binds (ps := ["_law_cord_here"]) fun _ _ _ _ _ _ us hl => match us, hl with | [_], _ => rfl
  have F32 := fun_mk (st := s_law_laid) l32 c32' k32
  have b32 := F32.binds (ps := ["_law_parts"]) fun _ _ _ _ _ _ us hl => match us, hl with | [_], _ => rfl
  have F33 := fun_mk (st := s_contrary) l33 c33' k33
  have b33 := F33.binds (ps := ["cord"]) fun _ _ _ _ _ _ us hl => match us, hl with | [_], _ => rfl
  have F34 := fun_mk (st := s_Piece_laid) l34 c34' k34
  have b34 := F34.binds (ps := ["self"]) fun _ _ _ _ _ _ us hl => match us, hl with | [_], _ => rfl
  have F35 := fun_mk (st := s_Parts_laid) l35 c35' k35
  have b35 := F35.binds (ps := ["self"]) fun _ _ _ _ _ _ us hl => match us, hl with | [_], _ => rfl
  have F36 := fun_mk (st := s_Times_laid) l36 c36' k36
  have b36 := F36.binds (ps := ["self"]) fun _ _ _ _ _ _ us hl => match us, hl with | [_], _ => rfl
  have F37 := fun_mk (st := s_Back_laid) l37 c37' k37
  have b37 := F37.binds (ps := ["self"]) fun _ _ _ _ _ _ us hl => match us, hl with | [_], _ => rfl
  have F38 := fun_mk (st := s_Term_cord) l38 c38' k38
  have b38 := F38.binds (ps := ["self"]) fun _ _ _ _ _ _ us hl => match us, hl with | [_], _ => rfl
  have F39 := fun_mk (st := s_law_same) l39 c39' k39
  have b39 := F39.binds (ps := ["_law_words_here"]) fun _ _ _ _ _ _ us hl => match us, hl with | [_], _ => rfl
  have F40 := fun_mk (st := s_law) l40 c40' k40
  have b40 := F40.binds (ps := ["_law_script"]) fun _ _ _ _ _ _ us hl => match us, hl with | [_], _ => rfl
  let fa : Nat → Addr := fun i => [f0, f1, f2, f3, f4, f5, f6, f7, f8, f9, f10, f11, f12, f13, f14, f15, f16, f17, f18, f19, f20, f21, f22, f23, f24, f25, f26, f27, f28, f29, f30, f31, f32, f33, f34, f35, f36, f37, f38, f39, fl].getD i 0
  let fd : Nat → FuncData := fun i => [PySem.W.fnOf "_law_mix" "_law_mix" (defArgs s_law_mix) (defBody s_law_mix) (defScope s_law_mix) .none kV0 dc0 pm0 an0 cd0 ct0, PySem.W.fnOf "_law_words" "_law_words" (defArgs s_law_words) (defBody s_law_words) (defScope s_law_words) .none kV1 dc1 pm1 an1 cd1 ct1, PySem.W.fnOf "_law_at" "_law_at" (defArgs s_law_at) (defBody s_law_at) (defScope s_law_at) .none kV2 dc2 pm2 an2 cd2 ct2, PySem.W.fnOf "_law_within" "_law_within" (defArgs s_law_within) (defBody s_law_within) (defScope s_law_within) .none kV3 dc3 pm3 an3 cd3 ct3, PySem.W.fnOf "_law_any_sign" "_law_any_sign" (defArgs s_law_any_sign) (defBody s_law_any_sign) (defScope s_law_any_sign) .none kV4 dc4 pm4 an4 cd4 ct4, PySem.W.fnOf "_law_odd" "_law_odd" (defArgs s_law_odd) (defBody s_law_odd) (defScope s_law_odd) .none kV5 dc5 pm5 an5 cd5 ct5, PySem.W.fnOf "_law_spoiled" "_law_spoiled" (defArgs s_law_spoiled) (defBody s_law_spoiled) (defScope s_law_spoiled) .none kV6 dc6 pm6 an6 cd6 ct6, PySem.W.fnOf "_law_number" "_law_number" (defArgs s_law_number) (defBody s_law_number) (defScope s_law_number) .none kV7 dc7 pm7 an7 cd7 ct7, PySem.W.fnOf "_law_bracket" "_law_bracket" (defArgs s_law_bracket) (defBody s_law_bracket) (defScope s_law_bracket) .none kV8 dc8 pm8 an8 cd8 ct8, PySem.W.fnOf "_law_row" "_law_row" (defArgs s_law_row) (defBody s_law_row) (defScope s_law_row) .none kV9 dc9 pm9 an9 cd9 ct9, PySem.W.fnOf "_law_read" "_law_read" (defArgs s_law_read) (defBody s_law_read) (defScope s_law_read) .none kV10 dc10 pm10 an10 cd10 ct10, PySem.W.fnOf "__init__" "Reader.__init__" (defArgs s_Reader___init__) (defBody s_Reader___init__) (defScope s_Reader___init__) .none kV11 dc11 pm11 an11 cd11 ct11, PySem.W.fnOf "sign" "Reader.sign" (defArgs s_Reader_sign) (defBody s_Reader_sign) (defScope s_Reader_sign) .none kV12 dc12 pm12 an12 cd12 ct12, PySem.W.fnOf "want" "Reader.want" (defArgs s_Reader_want) (defBody s_Reader_want) (defScope s_Reader_want) .none kV13 dc13 pm13 an13 cd13 ct13, PySem.W.fnOf "__init__" "Piece.__init__" (defArgs s_Piece___init__) (defBody s_Piece___init__) (defScope s_Piece___init__) .none kV14 dc14 pm14 an14 cd14 ct14, PySem.W.fnOf "figures" "Reader.figures" (defArgs s_Reader_figures) (defBody s_Reader_figures) (defScope s_Reader_figures) .none kV15 dc15 pm15 an15 cd15 ct15, PySem.W.fnOf "amount" "Reader.amount" (defArgs s_Reader_amount) (defBody s_Reader_amount) (defScope s_Reader_amount) .none kV16 dc16 pm16 an16 cd16 ct16, PySem.W.fnOf "__init__" "Times.__init__" (defArgs s_Times___init__) (defBody s_Times___init__) (defScope s_Times___init__) .none kV17 dc17 pm17 an17 cd17 ct17, PySem.W.fnOf "__init__" "Back.__init__" (defArgs s_Back___init__) (defBody s_Back___init__) (defScope s_Back___init__) .none kV18 dc18 pm18 an18 cd18 ct18, PySem.W.fnOf "__init__" "Parts.__init__" (defArgs s_Parts___init__) (defBody s_Parts___init__) (defScope s_Parts___init__) .none kV19 dc19 pm19 an19 cd19 ct19, PySem.W.fnOf "part" "Reader.part" (defArgs s_Reader_part) (defBody s_Reader_part) (defScope s_Reader_part) .none kV20 dc20 pm20 an20 cd20 ct20, PySem.W.fnOf "row" "Reader.row" (defArgs s_Reader_row) (defBody s_Reader_row) (defScope s_Reader_row) .none kV21 dc21 pm21 an21 cd21 ct21, PySem.W.fnOf "read" "read" (defArgs s_read) (defBody s_read) (defScope s_read) .none kV22 dc22 pm22 an22 cd22 ct22, PySem.W.fnOf "_law_others" "_law_others" (defArgs s_law_others) (defBody s_law_others) (defScope s_law_others) .none kV23 dc23 pm23 an23 cd23 ct23, PySem.W.fnOf "_law_said" "_law_said" (defArgs s_law_said) (defBody s_law_said) (defScope s_law_said) .none kV24 dc24 pm24 an24 cd24 ct24, PySem.W.fnOf "_law_count" "_law_count" (defArgs s_law_count) (defBody s_law_count) (defScope s_law_count) .none kV25 dc25 pm25 an25 cd25 ct25, PySem.W.fnOf "pieces" "Piece.pieces" (defArgs s_Piece_pieces) (defBody s_Piece_pieces) (defScope s_Piece_pieces) .none kV26 dc26 pm26 an26 cd26 ct26, PySem.W.fnOf "pieces" "Parts.pieces" (defArgs s_Parts_pieces) (defBody s_Parts_pieces) (defScope s_Parts_pieces) .none kV27 dc27 pm27 an27 cd27 ct27, PySem.W.fnOf "pieces" "Times.pieces" (defArgs s_Times_pieces) (defBody s_Times_pieces) (defScope s_Times_pieces) .none kV28 dc28 pm28 an28 cd28 ct28, PySem.W.fnOf "pieces" "Back.pieces" (defArgs s_Back_pieces) (defBody s_Back_pieces) (defScope s_Back_pieces) .none kV29 dc29 pm29 an29 cd29 ct29, PySem.W.fnOf "_law_right" "_law_right" (defArgs s_law_right) (defBody s_law_right) (defScope s_law_right) .none kV30 dc30 pm30 an30 cd30 ct30, PySem.W.fnOf "_law_contrary" "_law_contrary" (defArgs s_law_contrary) (defBody s_law_contrary) (defScope s_law_contrary) .none kV31 dc31 pm31 an31 cd31 ct31, PySem.W.fnOf "_law_laid" "_law_laid" (defArgs s_law_laid) (defBody s_law_laid) (defScope s_law_laid) .none kV32 dc32 pm32 an32 cd32 ct32, PySem.W.fnOf "contrary" "contrary" (defArgs s_contrary) (defBody s_contrary) (defScope s_contrary) .none kV33 dc33 pm33 an33 cd33 ct33, PySem.W.fnOf "laid" "Piece.laid" (defArgs s_Piece_laid) (defBody s_Piece_laid) (defScope s_Piece_laid) .none kV34 dc34 pm34 an34 cd34 ct34, PySem.W.fnOf "laid" "Parts.laid" (defArgs s_Parts_laid) (defBody s_Parts_laid) (defScope s_Parts_laid) .none kV35 dc35 pm35 an35 cd35 ct35, PySem.W.fnOf "laid" "Times.laid" (defArgs s_Times_laid) (defBody s_Times_laid) (defScope s_Times_laid) .none kV36 dc36 pm36 an36 cd36 ct36, PySem.W.fnOf "laid" "Back.laid" (defArgs s_Back_laid) (defBody s_Back_laid) (defScope s_Back_laid) .none kV37 dc37 pm37 an37 cd37 ct37, PySem.W.fnOf "cord" "Term.cord" (defArgs s_Term_cord) (defBody s_Term_cord) (defScope s_Term_cord) .none kV38 dc38 pm38 an38 cd38 ct38, PySem.W.fnOf "_law_same" "_law_same" (defArgs s_law_same) (defBody s_law_same) (defScope s_law_same) .none kV39 dc39 pm39 an39 cd39 ct39, PySem.W.fnOf "law" "law" (defArgs s_law) (defBody s_law) (defScope s_law) .none kV40 dc40 pm40 an40 cd40 ct40].getD i (PySem.W.fnOf "law" "law" (defArgs s_law) (defBody s_law) (defScope s_law) .none kV40 dc40 pm40 an40 cd40 ct40)
  let ca : Nat → Addr := fun i => [c0, c1, c2, c3, c4, c5, c6, c7, c8, c9, c10].getD i 0
  have e_Piece : (ccOf [("Piece", k100), ("Parts", k101), ("Times", k102), ("Back", k103), ("Reader", k104)]) "Piece" = k100 := ccOf_hd
  have e_Parts : (ccOf [("Piece", k100), ("Parts", k101), ("Times", k102), ("Back", k103), ("Reader", k104)]) "Parts" = k101 := (ccOf_tl (by decide +kernel) ccOf_hd)
  have e_Times : (ccOf [("Piece", k100), ("Parts", k101), ("Times", k102), ("Back", k103), ("Reader", k104)]) "Times" = k102 := (ccOf_tl (by decide +kernel) (ccOf_tl (by decide +kernel) ccOf_hd))
  have e_Back : (ccOf [("Piece", k100), ("Parts", k101), ("Times", k102), ("Back", k103), ("Reader", k104)]) "Back" = k103 := (ccOf_tl (by decide +kernel) (ccOf_tl (by decide +kernel) (ccOf_tl (by decide +kernel) ccOf_hd)))
  have e_Reader : (ccOf [("Piece", k100), ("Parts", k101), ("Times", k102), ("Back", k103), ("Reader", k104)]) "Reader" = k104 := (ccOf_tl (by decide +kernel) (ccOf_tl (by decide +kernel) (ccOf_tl (by decide +kernel) (ccOf_tl (by decide +kernel) ccOf_hd))))
  have T : Txt K mg fa fd ca (ccOf [("Piece", k100), ("Parts", k101), ("Times", k102), ("Back", k103), ("Reader", k104)]) (fun j => [].getD j 0) := ⟨PySem.W.mg_none_of X G z_ValueError, PySem.W.mg_none_of X G z_abs, PySem.W.mg_none_of X G z_bool, PySem.W.mg_none_of X G z_int, PySem.W.mg_none_of X G z_isinstance, PySem.W.mg_none_of X G z_len, PySem.W.mg_none_of X G z_list, PySem.W.mg_none_of X G z_min, PySem.W.mg_none_of X G z_range, PySem.W.mg_none_of X G z_reversed, PySem.W.mg_none_of X G z_str, PySem.W.mg_none_of X G z_sum, PySem.W.mg_none_of X G z_tuple, PySem.W.mg_none_of X G z_zip, ⟨_, PySem.W.mg_of X G y_DEEPEST⟩, ⟨_, PySem.W.mg_of X G y_FIGURES⟩, ⟨_, PySem.W.mg_of X G y_LETTERS⟩, ⟨_, PySem.W.mg_of X G y_MOST⟩, ⟨_, PySem.W.mg_of X G y_MOST_FIGURES⟩, ⟨PySem.W.mg_of X G xa8, xb8, xc8, xd8, xe8⟩, ⟨PySem.W.mg_of X G xa9, xb9, xc9, xd9, xe9⟩, (all_cons ⟨c8, PySem.W.mg_of X G xa8, ⟨zg8, zk8, xd8, yd8, zc8, tn, tt, zm8⟩, zv8, zs8_8, (all_cons ⟨c0, PySem.W.mg_of X G xa0, by rw [show isSubN "NoText" "HangError" = true from by decide +kernel]; exact zs8_0⟩ (all_cons ⟨c1, PySem.W.mg_of X G xa1, by rw [show isSubN "NoText" "NoCord" = false from by decide +kernel]; exact zs8_1⟩ (all_cons ⟨c2, PySem.W.mg_of X G xa2, by rw [show isSubN "NoText" "NoLine" = false from by decide +kernel]; exact zs8_2⟩ (all_cons ⟨c3, PySem.W.mg_of X G xa3, by rw [show isSubN "NoText" "NoMove" = false from by decide +kernel]; exact zs8_3⟩ (all_cons ⟨c4, PySem.W.mg_of X G xa4, by rw [show isSubN "NoText" "NoNails" = false from by decide +kernel]; exact zs8_4⟩ (all_cons ⟨c5, PySem.W.mg_of X G xa5, by rw [show isSubN "NoText" "NoName" = false from by decide +kernel]; exact zs8_5⟩ (all_cons ⟨c6, PySem.W.mg_of X G xa6, by rw [show isSubN "NoText" "NoNumber" = false from by decide +kernel]; exact zs8_6⟩ (all_cons ⟨c7, PySem.W.mg_of X G xa7, by rw [show isSubN "NoText" "NoRule" = false from by decide +kernel]; exact zs8_7⟩ (all_cons ⟨c8, PySem.W.mg_of X G xa8, by rw [show isSubN "NoText" "NoText" = true from by decide +kernel]; exact zs8_8⟩ (all_cons ⟨c9, PySem.W.mg_of X G xa9, by rw [show isSubN "NoText" "TooLong" = false from by decide +kernel]; exact zs8_9⟩ (all_cons ⟨c10, PySem.W.mg_of X G xa10, by rw [show isSubN "NoText" "TooMany" = false from by decide +kernel]; exact zs8_10⟩ all_nil)))))))))))⟩ (all_cons ⟨c9, PySem.W.mg_of X G xa9, ⟨zg9, zk9, xd9, yd9, zc9, tn, tt, zm9⟩, zv9, zs9_9, (all_cons ⟨c0, PySem.W.mg_of X G xa0, by rw [show isSubN "TooLong" "HangError" = true from by decide +kernel]; exact zs9_0⟩ (all_cons ⟨c1, PySem.W.mg_of X G xa1, by rw [show isSubN "TooLong" "NoCord" = false from by decide +kernel]; exact zs9_1⟩ (all_cons ⟨c2, PySem.W.mg_of X G xa2, by rw [show isSubN "TooLong" "NoLine" = false from by decide +kernel]; exact zs9_2⟩ (all_cons ⟨c3, PySem.W.mg_of X G xa3, by rw [show isSubN "TooLong" "NoMove" = false from by decide +kernel]; exact zs9_3⟩ (all_cons ⟨c4, PySem.W.mg_of X G xa4, by rw [show isSubN "TooLong" "NoNails" = false from by decide +kernel]; exact zs9_4⟩ (all_cons ⟨c5, PySem.W.mg_of X G xa5, by rw [show isSubN "TooLong" "NoName" = false from by decide +kernel]; exact zs9_5⟩ (all_cons ⟨c6, PySem.W.mg_of X G xa6, by rw [show isSubN "TooLong" "NoNumber" = false from by decide +kernel]; exact zs9_6⟩ (all_cons ⟨c7, PySem.W.mg_of X G xa7, by rw [show isSubN "TooLong" "NoRule" = false from by decide +kernel]; exact zs9_7⟩ (all_cons ⟨c8, PySem.W.mg_of X G xa8, by rw [show isSubN "TooLong" "NoText" = false from by decide +kernel]; exact zs9_8⟩ (all_cons ⟨c9, PySem.W.mg_of X G xa9, by rw [show isSubN "TooLong" "TooLong" = true from by decide +kernel]; exact zs9_9⟩ (all_cons ⟨c10, PySem.W.mg_of X G xa10, by rw [show isSubN "TooLong" "TooMany" = false from by decide +kernel]; exact zs9_10⟩ all_nil)))))))))))⟩ all_nil)), (all_cons ⟨c0, PySem.W.mg_of X G xa0, xe0, yd0, xd0⟩ (all_cons ⟨c1, PySem.W.mg_of X G xa1, xe1, yd1, xd1⟩ (all_cons ⟨c2, PySem.W.mg_of X G xa2, xe2, yd2, xd2⟩ (all_cons ⟨c3, PySem.W.mg_of X G xa3, xe3, yd3, xd3⟩ (all_cons ⟨c4, PySem.W.mg_of X G xa4, xe4, yd4, xd4⟩ (all_cons ⟨c5, PySem.W.mg_of X G xa5, xe5, yd5, xd5⟩ (all_cons ⟨c6, PySem.W.mg_of X G xa6, xe6, yd6, xd6⟩ (all_cons ⟨c7, PySem.W.mg_of X G xa7, xe7, yd7, xd7⟩ (all_cons ⟨c8, PySem.W.mg_of X G xa8, xe8, yd8, xd8⟩ (all_cons ⟨c9, PySem.W.mg_of X G xa9, xe9, yd9, xd9⟩ (all_cons ⟨c10, PySem.W.mg_of X G xa10, xe10, yd10, xd10⟩ all_nil))))))))))), PySem.W.mg_of X G a0, F0, b0, PySem.W.mg_of X G a1, F1, b1, PySem.W.mg_of X G a2, F2, b2, PySem.W.mg_of X G a3, F3, b3, PySem.W.mg_of X G a4, F4, b4, PySem.W.mg_of X G a5, F5, b5, PySem.W.mg_of X G a6, F6, b6, PySem.W.mg_of X G a7, F7, b7, PySem.W.mg_of X G a8, F8, b8, PySem.W.mg_of X G a9, F9, b9, PySem.W.mg_of X G a10, F10, b10, (by rw [e_Reader]; exact ⟨mk104, a11_4, i11, kc104⟩), F11, b11, (by rw [e_Reader]; exact ⟨a12_4, i12, k12⟩), F12, b12, (by rw [e_Reader]; exact ⟨a13_4, i13, k13⟩), F13, b13, (by rw [e_Piece]; exact ⟨mk100, a14_0, i14, kc100⟩), F14, b14, (by rw [e_Reader]; exact ⟨a15_4, i15, k15⟩), F15, b15, (by rw [e_Reader]; exact ⟨a16_4, i16, k16⟩), F16, b16, (by rw [e_Times]; exact ⟨mk102, a17_2, i17, kc102⟩), F17, b17, (by rw [e_Back]; exact ⟨mk103, a18_3, i18, kc103⟩), F18, b18, (by rw [e_Parts]; exact ⟨mk101, a19_1, i19, kc101⟩), F19, b19, (by rw [e_Reader]; exact ⟨a20_4, i20, k20⟩), F20, b20, (by rw [e_Reader]; exact ⟨a21_4, i21, k21⟩), F21, b21, PySem.W.mg_of X G a22, F22, b22, PySem.W.mg_of X G a23, F23, b23, PySem.W.mg_of X G a24, F24, b24, PySem.W.mg_of X G a25, F25, b25, (by rw [e_Piece]; exact ⟨a26_0, i26, k26⟩), F26, b26, (by rw [e_Parts]; exact ⟨a27_1, i27, k27⟩), F27, b27, (by rw [e_Times]; exact ⟨a28_2, i28, k28⟩), F28, b28, (by rw [e_Back]; exact ⟨a29_3, i29, k29⟩), F29, b29, PySem.W.mg_of X G a30, F30, b30, PySem.W.mg_of X G a31, F31, b31, PySem.W.mg_of X G a32, F32, b32, PySem.W.mg_of X G a33, F33, b33, (by rw [e_Piece]; exact ⟨a34_0, i34, k34⟩), F34, b34, (by rw [e_Parts]; exact ⟨a35_1, i35, k35⟩), F35, b35, (by rw [e_Times]; exact ⟨a36_2, i36, k36⟩), F36, b36, (by rw [e_Back]; exact ⟨a37_3, i37, k37⟩), F37, b37, (by rw [e_Piece]; exact ⟨a38_0, i38, k38⟩), (by rw [e_Parts]; exact ⟨a38_1, i38, k38⟩), (by rw [e_Times]; exact ⟨a38_2, i38, k38⟩), (by rw [e_Back]; exact ⟨a38_3, i38, k38⟩), F38, b38, PySem.W.mg_of X G a39, F39, b39, PySem.W.mg_of X G a40, F40, b40, (by rw [e_Piece]; exact ⟨pg100, hd100, po100, sa100⟩), (by rw [e_Piece]; exact PySem.W.mg_of X G aC100), (by rw [e_Piece]; exact nf100_nail), (by rw [e_Piece]; exact nf100_turns), (by rw [e_Parts]; exact ⟨pg101, hd101, po101, sa101⟩), (by rw [e_Parts]; exact PySem.W.mg_of X G aC101), (by rw [e_Parts]; exact nf101_parts), (by rw [e_Parts]; exact ⟨eqf101, eqs101, eqt101⟩), (by rw [e_Times]; exact ⟨pg102, hd102, po102, sa102⟩), (by rw [e_Times]; exact PySem.W.mg_of X G aC102), (by rw [e_Times]; exact nf102_body), (by rw [e_Times]; exact nf102_number), (by rw [e_Back]; exact ⟨pg103, hd103, po103, sa103⟩), (by rw [e_Back]; exact PySem.W.mg_of X G aC103), (by rw [e_Back]; exact nf103_one), (by rw [e_Back]; exact nf103_other), (by rw [e_Reader]; exact ⟨pg104, hd104, po104, sa104⟩), (by rw [e_Reader]; exact PySem.W.mg_of X G aC104), (by rw [e_Reader]; exact nf104_signs), (by rw [e_Reader]; exact nf104_at)⟩
  exact ⟨PySem.W.fnOf "law" "law" (defArgs s_law) (defBody s_law) (defScope s_law) .none kV40 dc40 pm40 an40 cd40 ct40, fun s v => .of_eq rfl, fun base _ _ => ok_law T⟩
end NL
open PySem PySem.W PyProof.Rows
set_option maxHeartbeats 0 in
theorem PySem.Challenge.cw_nailhang_k63_no_text_holds : PySem.Challenge.rw_nailhang_k63_no_text.Holds := by
  w_on; o_law; k_head; (case hw => w_witness2)
  k_fill
  refine L2.walk_of (l := PySem.Challenge.rw_nailhang_k63_no_text) (n := 63) (k := 133) (x := "_law_script") (CX := fun w => L2N.CX PySem.Challenge.rw_nailhang_k63_no_text.prog w) (sp := fun w => NL.spLaw _) rfl (by decide) rfl ⟨rfl, by decide, by decide⟩ (fun w h Y => PySem.W.kIn_of Y) ?F (fun _ _ a ns hl hO hS => NL.law_in hl hS) (fun _ _ _ _ _ h => NL.law_cx h)
  case F =>
    intro w mg fa h KX G hmg
    refine' NL.law_F (NL.all_mk KX G hmg ?aC100 ?pg100 ?hd100 ?po100 ?sa100 ?mk100 ?kc100 ?nf100_nail ?nf100_turns ?aC101 ?pg101 ?hd101 ?po101 ?sa101 ?mk101 ?kc101 ?nf101_parts ?eqf101 ?eqs101 ?eqt101 ?aC102 ?pg102 ?hd102 ?po102 ?sa102 ?mk102 ?kc102 ?nf102_body ?nf102_number ?aC103 ?pg103 ?hd103 ?po103 ?sa103 ?mk103 ?kc103 ?nf103_one ?nf103_other ?aC104 ?pg104 ?hd104 ?po104 ?sa104 ?mk104 ?kc104 ?nf104_signs ?nf104_at ?a0 ?l0 ?c0p ?k0 ?a1 ?l1 ?c1p ?k1 ?a2 ?l2 ?c2p ?k2 ?a3 ?l3 ?c3p ?k3 ?a4 ?l4 ?c4p ?k4 ?a5 ?l5 ?c5p ?k5 ?a6 ?l6 ?c6p ?k6 ?a7 ?l7 ?c7p ?k7 ?a8 ?l8 ?c8p ?k8 ?a9 ?l9 ?c9p ?k9 ?a10 ?l10 ?c10p ?k10 ?a11_4 ?i11 ?l11 ?c11p ?k11 ?a12_4 ?i12 ?l12 ?c12p ?k12 ?a13_4 ?i13 ?l13 ?c13p ?k13 ?a14_0 ?i14 ?l14 ?c14p ?k14 ?a15_4 ?i15 ?l15 ?c15p ?k15 ?a16_4 ?i16 ?l16 ?c16p ?k16 ?a17_2 ?i17 ?l17 ?c17p ?k17 ?a18_3 ?i18 ?l18 ?c18p ?k18 ?a19_1 ?i19 ?l19 ?c19p ?k19 ?a20_4 ?i20 ?l20 ?c20p ?k20 ?a21_4 ?i21 ?l21 ?c21p ?k21 ?a22 ?l22 ?c22p ?k22 ?a23 ?l23 ?c23p ?k23 ?a24 ?l24 ?c24p ?k24 ?a25 ?l25 ?c25p ?k25 ?a26_0 ?i26 ?l26 ?c26p ?k26 ?a27_1 ?i27 ?l27 ?c27p ?k27 ?a28_2 ?i28 ?l28 ?c28p ?k28 ?a29_3 ?i29 ?l29 ?c29p ?k29 ?a30 ?l30 ?c30p ?k30 ?a31 ?l31 ?c31p ?k31 ?a32 ?l32 ?c32p ?k32 ?a33 ?l33 ?c33p ?k33 ?a34_0 ?i34 ?l34 ?c34p ?k34 ?a35_1 ?i35 ?l35 ?c35p ?k35 ?a36_2 ?i36 ?l36 ?c36p ?k36 ?a37_3 ?i37 ?l37 ?c37p ?k37 ?a38_0 ?a38_1 ?a38_2 ?a38_3 ?i38 ?l38 ?c38p ?k38 ?a39 ?l39 ?c39p ?k39 ?a40 ?l40 ?c40p ?k40 ?z_ValueError ?z_abs ?z_bool ?z_int ?z_isinstance ?z_len ?z_list ?z_min ?z_range ?z_reversed ?z_str ?z_sum ?z_tuple ?z_zip ?y_DEEPEST ?y_FIGURES ?y_LETTERS ?y_MOST ?y_MOST_FIGURES ?tn ?tt ?xa0 ?xd0 ?xe0 ?yd0 ?xa1 ?xd1 ?xe1 ?yd1 ?xa2 ?xd2 ?xe2 ?yd2 ?xa3 ?xd3 ?xe3 ?yd3 ?xa4 ?xd4 ?xe4 ?yd4 ?xa5 ?xd5 ?xe5 ?yd5 ?xa6 ?xd6 ?xe6 ?yd6 ?xa7 ?xd7 ?xe7 ?yd7 ?yd8 ?yd9 ?xa10 ?xd10 ?xe10 ?yd10 ?xa8 ?xb8 ?xc8 ?xd8 ?xe8 ?xa9 ?xb9 ?xc9 ?xd9 ?xe9 ?zg8 ?zk8 ?zc8 ?zm8 ?zv8 ?zs8_0 ?zs8_1 ?zs8_2 ?zs8_3 ?zs8_4 ?zs8_5 ?zs8_6 ?zs8_7 ?zs8_8 ?zs8_9 ?zs8_10 ?zg9 ?zk9 ?zc9 ?zm9 ?zv9 ?zs9_0 ?zs9_1 ?zs9_2 ?zs9_3 ?zs9_4 ?zs9_5 ?zs9_6 ?zs9_7 ?zs9_8 ?zs9_9 ?zs9_10)
    (case aC100 => k_is)
    (case pg100 => k_is)
    (case hd100 => k_is)
    (case po100 => k_is)
    (case sa100 => k_is)
    (case mk100 => k_is)
    (case kc100 => k_is)
    (case nf100_nail => k_is)
    (case nf100_turns => k_is)
    (case aC101 => k_is)
    (case pg101 => k_is)
    (case hd101 => k_is)
    (case po101 => k_is)
    (case sa101 => k_is)
    (case mk101 => k_is)
    (case kc101 => k_is)
    (case nf101_parts => k_is)
    (case eqf101 => k_is)
    (case eqs101 => k_is)
    (case eqt101 => k_is)
    (case aC102 => k_is)
    (case pg102 => k_is)
    (case hd102 => k_is)
    (case po102 => k_is)
    (case sa102 => k_is)
    (case mk102 => k_is)
    (case kc102 => k_is)
    (case nf102_body => k_is)
    (case nf102_number => k_is)
    (case aC103 => k_is)
    (case pg103 => k_is)
    (case hd103 => k_is)
    (case po103 => k_is)
    (case sa103 => k_is)
    (case mk103 => k_is)
    (case kc103 => k_is)
    (case nf103_one => k_is)
    (case nf103_other => k_is)
    (case aC104 => k_is)
    (case pg104 => k_is)
    (case hd104 => k_is)
    (case po104 => k_is)
    (case sa104 => k_is)
    (case mk104 => k_is)
    (case kc104 => k_is)
    (case nf104_signs => k_is)
    (case nf104_at => k_is)
    (case a0 => k_is)
    (case l0 => k_is)
    (case c0p => k_is)
    (case k0 => k_is)
    (case a1 => k_is)
    (case l1 => k_is)
    (case c1p => k_is)
    (case k1 => k_is)
    (case a2 => k_is)
    (case l2 => k_is)
    (case c2p => k_is)
    (case k2 => k_is)
    (case a3 => k_is)
    (case l3 => k_is)
    (case c3p => k_is)
    (case k3 => k_is)
    (case a4 => k_is)
    (case l4 => k_is)
    (case c4p => k_is)
    (case k4 => k_is)
    (case a5 => k_is)
    (case l5 => k_is)
    (case c5p => k_is)
    (case k5 => k_is)
    (case a6 => k_is)
    (case l6 => k_is)
    (case c6p => k_is)
    (case k6 => k_is)
    (case a7 => k_is)
    (case l7 => k_is)
    (case c7p => k_is)
    (case k7 => k_is)
    (case a8 => k_is)
    (case l8 => k_is)
    (case c8p => k_is)
    (case k8 => k_is)
    (case a9 => k_is)
    (case l9 => k_is)
    (case c9p => k_is)
    (case k9 => k_is)
    (case a10 => k_is)
    (case l10 => k_is)
    (case c10p => k_is)
    (case k10 => k_is)
    (case a11_4 => k_is)
    (case i11 => k_is)
    (case l11 => k_is)
    (case c11p => k_is)
    (case k11 => k_is)
    (case a12_4 => k_is)
    (case i12 => k_is)
    (case l12 => k_is)
    (case c12p => k_is)
    (case k12 => k_is)
    (case a13_4 => k_is)
    (case i13 => k_is)
    (case l13 => k_is)
    (case c13p => k_is)
    (case k13 => k_is)
    (case a14_0 => k_is)
    (case i14 => k_is)
    (case l14 => k_is)
    (case c14p => k_is)
    (case k14 => k_is)
    (case a15_4 => k_is)
    (case i15 => k_is)
    (case l15 => k_is)
    (case c15p => k_is)
    (case k15 => k_is)
    (case a16_4 => k_is)
    (case i16 => k_is)
    (case l16 => k_is)
    (case c16p => k_is)
    (case k16 => k_is)
    (case a17_2 => k_is)
    (case i17 => k_is)
    (case l17 => k_is)
    (case c17p => k_is)
    (case k17 => k_is)
    (case a18_3 => k_is)
    (case i18 => k_is)
    (case l18 => k_is)
    (case c18p => k_is)
    (case k18 => k_is)
    (case a19_1 => k_is)
    (case i19 => k_is)
    (case l19 => k_is)
    (case c19p => k_is)
    (case k19 => k_is)
    (case a20_4 => k_is)
    (case i20 => k_is)
    (case l20 => k_is)
    (case c20p => k_is)
    (case k20 => k_is)
    (case a21_4 => k_is)
    (case i21 => k_is)
    (case l21 => k_is)
    (case c21p => k_is)
    (case k21 => k_is)
    (case a22 => k_is)
    (case l22 => k_is)
    (case c22p => k_is)
    (case k22 => k_is)
    (case a23 => k_is)
    (case l23 => k_is)
    (case c23p => k_is)
    (case k23 => k_is)
    (case a24 => k_is)
    (case l24 => k_is)
    (case c24p => k_is)
    (case k24 => k_is)
    (case a25 => k_is)
    (case l25 => k_is)
    (case c25p => k_is)
    (case k25 => k_is)
    (case a26_0 => k_is)
    (case i26 => k_is)
    (case l26 => k_is)
    (case c26p => k_is)
    (case k26 => k_is)
    (case a27_1 => k_is)
    (case i27 => k_is)
    (case l27 => k_is)
    (case c27p => k_is)
    (case k27 => k_is)
    (case a28_2 => k_is)
    (case i28 => k_is)
    (case l28 => k_is)
    (case c28p => k_is)
    (case k28 => k_is)
    (case a29_3 => k_is)
    (case i29 => k_is)
    (case l29 => k_is)
    (case c29p => k_is)
    (case k29 => k_is)
    (case a30 => k_is)
    (case l30 => k_is)
    (case c30p => k_is)
    (case k30 => k_is)
    (case a31 => k_is)
    (case l31 => k_is)
    (case c31p => k_is)
    (case k31 => k_is)
    (case a32 => k_is)
    (case l32 => k_is)
    (case c32p => k_is)
    (case k32 => k_is)
    (case a33 => k_is)
    (case l33 => k_is)
    (case c33p => k_is)
    (case k33 => k_is)
    (case a34_0 => k_is)
    (case i34 => k_is)
    (case l34 => k_is)
    (case c34p => k_is)
    (case k34 => k_is)
    (case a35_1 => k_is)
    (case i35 => k_is)
    (case l35 => k_is)
    (case c35p => k_is)
    (case k35 => k_is)
    (case a36_2 => k_is)
    (case i36 => k_is)
    (case l36 => k_is)
    (case c36p => k_is)
    (case k36 => k_is)
    (case a37_3 => k_is)
    (case i37 => k_is)
    (case l37 => k_is)
    (case c37p => k_is)
    (case k37 => k_is)
    (case a38_0 => k_is)
    (case a38_1 => k_is)
    (case a38_2 => k_is)
    (case a38_3 => k_is)
    (case i38 => k_is)
    (case l38 => k_is)
    (case c38p => k_is)
    (case k38 => k_is)
    (case a39 => k_is)
    (case l39 => k_is)
    (case c39p => k_is)
    (case k39 => k_is)
    (case a40 => k_is)
    (case l40 => k_is)
    (case c40p => k_is)
    (case k40 => k_is)
    (case z_ValueError => k_is)
    (case z_abs => k_is)
    (case z_bool => k_is)
    (case z_int => k_is)
    (case z_isinstance => k_is)
    (case z_len => k_is)
    (case z_list => k_is)
    (case z_min => k_is)
    (case z_range => k_is)
    (case z_reversed => k_is)
    (case z_str => k_is)
    (case z_sum => k_is)
    (case z_tuple => k_is)
    (case z_zip => k_is)
    (case y_DEEPEST => k_is)
    (case y_FIGURES => k_is)
    (case y_LETTERS => k_is)
    (case y_MOST => k_is)
    (case y_MOST_FIGURES => k_is)
    (case tn => k_is)
    (case tt => k_is)
    (case xa0 => k_is)
    (case xd0 => k_is)
    (case xe0 => k_is)
    (case xa1 => k_is)
    (case xd1 => k_is)
    (case xe1 => k_is)
    (case xa2 => k_is)
    (case xd2 => k_is)
    (case xe2 => k_is)
    (case xa3 => k_is)
    (case xd3 => k_is)
    (case xe3 => k_is)
    (case xa4 => k_is)
    (case xd4 => k_is)
    (case xe4 => k_is)
    (case xa5 => k_is)
    (case xd5 => k_is)
    (case xe5 => k_is)
    (case xa6 => k_is)
    (case xd6 => k_is)
    (case xe6 => k_is)
    (case xa7 => k_is)
    (case xd7 => k_is)
    (case xe7 => k_is)
    (case xa10 => k_is)
    (case xd10 => k_is)
    (case xe10 => k_is)
    (case xa8 => k_is)
    (case xb8 => k_exc)
    (case xc8 => k_is)
    (case xd8 => k_is)
    (case xe8 => k_is)
    (case xa9 => k_is)
    (case xb9 => k_exc)
    (case xc9 => k_is)
    (case xd9 => k_is)
    (case xe9 => k_is)
    (case zg8 => k_is)
    (case zk8 => k_is)
    (case zc8 => k_is)
    (case zm8 => k_is)
    (case zv8 => k_is)
    (case zs8_0 => k_is)
    (case zs8_1 => k_is)
    (case zs8_2 => k_is)
    (case zs8_3 => k_is)
    (case zs8_4 => k_is)
    (case zs8_5 => k_is)
    (case zs8_6 => k_is)
    (case zs8_7 => k_is)
    (case zs8_8 => k_is)
    (case zs8_9 => k_is)
    (case zs8_10 => k_is)
    (case zg9 => k_is)
    (case zk9 => k_is)
    (case zc9 => k_is)
    (case zm9 => k_is)
    (case zv9 => k_is)
    (case zs9_0 => k_is)
    (case zs9_1 => k_is)
    (case zs9_2 => k_is)
    (case zs9_3 => k_is)
    (case zs9_4 => k_is)
    (case zs9_5 => k_is)
    (case zs9_6 => k_is)
    (case zs9_7 => k_is)
    (case zs9_8 => k_is)
    (case zs9_9 => k_is)
    (case zs9_10 => k_is)
    (case yd0 => k_is)
    (case yd1 => k_is)
    (case yd2 => k_is)
    (case yd3 => k_is)
    (case yd4 => k_is)
    (case yd5 => k_is)
    (case yd6 => k_is)
    (case yd7 => k_is)
    (case yd8 => k_is)
    (case yd9 => k_is)
    (case yd10 => k_is)
#print axioms PySem.Challenge.cw_nailhang_k63_no_text_holds
