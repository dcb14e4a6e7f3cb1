import PyProof.Rows.All
import HandS.ForMost
import HandS.ForExc
import HandS.Wide
import HandS.IsInst
import HandS.Flow
import HandS.Lambda
import HandS.Style
import HandS.ExcCtx
import KE.SortKeyHeap
import HandS.Set
import HandS.SetFor
import HandS.SortKw
import KE.DatumOrd
import HandS.ExcIs
import HandS.HotCalls
import HandS.Replace
import HandS.DictTup
import HandS.ListItems
import KE.SortData
import PyProof.Transfer
import HandS.Text
import PySem.Challenge.RW_nailhang_k05_blocks
set_option Elab.async false
set_option linter.all false
set_option maxRecDepth 100000
set_option maxHeartbeats 2000000
/-! Data over the hand layer: what an expression tells as data, with no heap in sight. -/
namespace NL
open PySem PySem.Spec L2
open PyProof.Rows hiding St

/-- the written part; the tables of code objects; the own classes -/
class KC where
  K : PySem.W.Frag
  T : List (Addr × Str)
  ca : Str → Addr
variable [KC]
inductive D where
  | non | bl (b : Bool) | int (i : Int) | str (s : Str) | lst (xs : List D) | tup (xs : List D) | dct (ks : List Key) (xs : List D) | ref (a : Addr) | scr (ns : List Int) | dkz (ks : List Key) (xs : List D) | obj (c : Str) (fs : List Str) (xs : List D)

mutual
def Dat (S : Hp) : D → V → Prop
  | .non, v => v = .non
  | .bl b, v => v = .bl b
  | .int i, v => v = .int i
  | .str s, v => v = .str s
  | .lst xs, v => ∃ a vs, v = .ref a ∧ S a = some (.lst vs) ∧ Dats S xs vs
  | .tup xs, v => ∃ a vs, v = .ref a ∧ S a = some (.tup vs) ∧ Dats S xs vs
  | .dct ks xs, v => ∃ a kvs, v = .ref a ∧ S a = some (.dK kvs) ∧ kvs.map (·.1) = ks ∧ Dats S xs (kvs.map (·.2))
  | .dkz ks xs, v => ∃ a o kvs, v = .ref a ∧ S a = some (.frz o (.dK kvs)) ∧ kvs.map (·.1) = ks ∧ Dats S xs (kvs.map (·.2))
  | .obj c fs xs, v => ∃ a dx kvs, v = .ref a ∧ S a = some (.ins (KC.ca c) dx kvs) ∧ kvs.map (·.1) = fs ∧ Dats S xs (kvs.map (·.2))
  | .ref a, v => v = .ref a
  | .scr ns, v => ∃ a, v = .ref a ∧ SqL KC.K S a (ns.map V.int)
def Dats (S : Hp) : List D → List V → Prop
  | [], vs => vs = []
  | x :: xs, vs => ∃ v r, vs = v :: r ∧ Dat S x v ∧ Dats S xs r
end

theorem same_rd {S T : Hp} {a : Addr} {u : HO} (e : Same S T) (h : Rd S a u) : Rd T a u := by
  rcases h with h | ⟨o, h⟩
  · exact .inl (e _ _ h)
  · exact .inr ⟨o, e _ _ h⟩
mutual
theorem Dat.mono {S T : Hp} (e : Same S T) : ∀ (d : D) (v : V), Dat S d v → Dat T d v
  | .non, _, h => h
  | .bl _, _, h => h
  | .int _, _, h => h
  | .str _, _, h => h
  | .ref _, _, h => h
  | .scr ns, v, h => by
    unfold Dat at h ⊢
    obtain ⟨a, h1, h2⟩ := h
    exact ⟨a, h1, e.seq h2⟩
  | .lst xs, v, h => by
    unfold Dat at h ⊢
    obtain ⟨a, vs, h1, h2, h3⟩ := h
    exact ⟨a, vs, h1, e _ _ h2, Dats.mono e xs vs h3⟩
  | .tup xs, v, h => by
    unfold Dat at h ⊢
    obtain ⟨a, vs, h1, h2, h3⟩ := h
    exact ⟨a, vs, h1, e _ _ h2, Dats.mono e xs vs h3⟩
  | .dct ks xs, v, h => by
    unfold Dat at h ⊢
    obtain ⟨a, kvs, h1, h2, h3, h4⟩ := h
    exact ⟨a, kvs, h1, e _ _ h2, h3, Dats.mono e xs _ h4⟩
  | .dkz ks xs, v, h => by
    unfold Dat at h ⊢
    obtain ⟨a, o, kvs, h1, h2, h3, h4⟩ := h
    exact ⟨a, o, kvs, h1, e _ _ h2, h3, Dats.mono e xs _ h4⟩
  | .obj c fs xs, v, h => by
    unfold Dat at h ⊢
    obtain ⟨a, dx, kvs, h1, h2, h3, h4⟩ := h
    exact ⟨a, dx, kvs, h1, e _ _ h2, h3, Dats.mono e xs _ h4⟩
theorem Dats.mono {S T : Hp} (e : Same S T) : ∀ (xs : List D) (vs : List V), Dats S xs vs → Dats T xs vs
  | [], _, h => h
  | x :: xs, vs, h => by
    unfold Dats at h ⊢
    obtain ⟨v, r, h1, h2, h3⟩ := h
    exact ⟨v, r, h1, Dat.mono e x v h2, Dats.mono e xs r h3⟩
end
section
variable {S T : Hp}
theorem Dats.len : ∀ {xs : List D} {vs : List V}, Dats S xs vs → vs.length = xs.length
  | [], _, h => by unfold Dats at h; subst h; rfl
  | x :: xs, vs, h => by
    unfold Dats at h
    obtain ⟨v, r, rfl, _, h3⟩ := h
    simp only [List.length_cons, h3.len]
theorem Dats.cons {x : D} {xs : List D} {v : V} {vs : List V} (h : Dat S x v) (r : Dats S xs vs) : Dats S (x :: xs) (v :: vs) := by
  unfold Dats
  exact ⟨v, vs, rfl, h, r⟩
theorem Dats.nil : Dats S [] [] := by unfold Dats; rfl
theorem Dats.app : ∀ {xs ys : List D} {vs ws : List V}, Dats S xs vs → Dats S ys ws → Dats S (xs ++ ys) (vs ++ ws)
  | [], _, _, _, h, g => by unfold Dats at h; subst h; exact g
  | x :: xs, ys, vs, ws, h, g => by
    unfold Dats at h
    obtain ⟨v, r, rfl, h2, h3⟩ := h
    exact .cons h2 (h3.app g)
theorem Dats.one {x : D} {v : V} (h : Dat S x v) : Dats S [x] [v] := .cons h .nil
theorem Dats.take : ∀ (n : Nat) {xs : List D} {vs : List V}, Dats S xs vs → Dats S (xs.take n) (vs.take n)
  | 0, xs, vs, _ => by simp; exact .nil
  | n + 1, [], vs, h => by unfold Dats at h; subst h; simp; exact .nil
  | n + 1, x :: xs, vs, h => by
    unfold Dats at h
    obtain ⟨v, r, rfl, h2, h3⟩ := h
    simp only [List.take_succ_cons]
    exact .cons h2 (h3.take n)
theorem Dats.drop : ∀ (n : Nat) {xs : List D} {vs : List V}, Dats S xs vs → Dats S (xs.drop n) (vs.drop n)
  | 0, xs, vs, h => h
  | n + 1, [], vs, h => by unfold Dats at h; subst h; simp; exact .nil
  | n + 1, x :: xs, vs, h => by
    unfold Dats at h
    obtain ⟨v, r, rfl, h2, h3⟩ := h
    simp only [List.drop_succ_cons]
    exact h3.drop n
theorem Dats.get : ∀ {xs : List D} {vs : List V} {i : Nat} {x : D}, Dats S xs vs → xs[i]? = some x → ∃ v, vs[i]? = some v ∧ Dat S x v
  | [], _, i, x, _, e => by simp at e
  | x :: xs, vs, 0, y, h, e => by
    unfold Dats at h
    obtain ⟨v, r, rfl, h2, h3⟩ := h
    simp at e
    subst e
    exact ⟨v, rfl, h2⟩
  | x :: xs, vs, i + 1, y, h, e => by
    unfold Dats at h
    obtain ⟨v, r, rfl, h2, h3⟩ := h
    simp at e ⊢
    exact h3.get e
theorem Dats.getV : ∀ {xs : List D} {vs : List V} {i : Nat} {v : V}, Dats S xs vs → vs[i]? = some v → ∃ x, xs[i]? = some x ∧ Dat S x v
  | [], _, i, x, h, e => by unfold Dats at h; subst h; simp at e
  | x :: xs, vs, 0, y, h, e => by
    unfold Dats at h
    obtain ⟨v, r, rfl, h2, h3⟩ := h
    simp at e
    subst e
    exact ⟨x, rfl, h2⟩
  | x :: xs, vs, i + 1, y, h, e => by
    unfold Dats at h
    obtain ⟨v, r, rfl, h2, h3⟩ := h
    simp at e ⊢
    exact h3.getV e
theorem Dats.set : ∀ {xs : List D} {vs : List V} (i : Nat) {x : D} {v : V}, Dats S xs vs → Dat S x v → Dats S (xs.set i x) (vs.set i v)
  | [], _, i, x, v, h, g => by unfold Dats at h; subst h; simp; exact .nil
  | y :: xs, vs, 0, x, v, h, g => by
    unfold Dats at h
    obtain ⟨v', r, rfl, h2, h3⟩ := h
    exact .cons g h3
  | y :: xs, vs, i + 1, x, v, h, g => by
    unfold Dats at h
    obtain ⟨v', r, rfl, h2, h3⟩ := h
    exact .cons h2 (h3.set i g)
theorem Dats.dropLast {xs : List D} {vs : List V} (h : Dats S xs vs) : Dats S xs.dropLast vs.dropLast := by
  rw [List.dropLast_eq_take, List.dropLast_eq_take, h.len]
  exact h.take _
theorem Dats.rev : ∀ {xs : List D} {vs : List V}, Dats S xs vs → Dats S xs.reverse vs.reverse
  | [], _, h => by unfold Dats at h; subst h; exact .nil
  | x :: xs, vs, h => by
    unfold Dats at h
    obtain ⟨v, r, rfl, h2, h3⟩ := h
    simp only [List.reverse_cons]
    exact h3.rev.app (.one h2)
theorem Dats.rep {xs : List D} {vs : List V} (h : Dats S xs vs) : ∀ n, Dats S (List.replicate n xs).flatten (List.replicate n vs).flatten
  | 0 => .nil
  | n + 1 => by
    simp only [List.replicate_succ, List.flatten_cons]
    exact h.app (h.rep n)
theorem Dats.ins : ∀ {xs : List D} {vs : List V} (i : Nat) {x : D} {v : V}, Dats S xs vs → Dat S x v → Dats S (xs.insertIdx i x) (vs.insertIdx i v)
  | xs, vs, 0, x, v, h, g => by simp; exact .cons g h
  | [], vs, i + 1, x, v, h, g => by unfold Dats at h; subst h; simp; exact .nil
  | y :: xs, vs, i + 1, x, v, h, g => by
    unfold Dats at h
    obtain ⟨v', r, rfl, h2, h3⟩ := h
    simp only [List.insertIdx_succ_cons]
    exact .cons h2 (h3.ins i g)
theorem Dats.ints : ∀ (ns : List Int), Dats S (ns.map D.int) (ns.map V.int)
  | [] => .nil
  | n :: ns => .cons (by unfold Dat; rfl) (Dats.ints ns)
theorem Dats.ofInts : ∀ {ns : List Int} {vs : List V}, Dats S (ns.map D.int) vs → vs = ns.map V.int
  | [], vs, h => by unfold Dats at h; exact h
  | n :: ns, vs, h => by
    unfold Dats at h
    obtain ⟨v, r, rfl, h2, h3⟩ := h
    unfold Dat at h2
    subst h2
    simp only [List.map_cons, Dats.ofInts h3]
theorem Dats.ofStrs : ∀ {ns : List Str} {vs : List V}, Dats S (ns.map D.str) vs → vs = ns.map V.str
  | [], vs, h => by unfold Dats at h; exact h
  | n :: ns, vs, h => by
    unfold Dats at h
    obtain ⟨v, r, rfl, h2, h3⟩ := h
    unfold Dat at h2
    subst h2
    simp only [List.map_cons, Dats.ofStrs h3]
theorem Dats.strs : ∀ (ns : List Str), Dats S (ns.map D.str) (ns.map V.str)
  | [] => .nil
  | n :: ns => .cons (by unfold Dat; rfl) (Dats.strs ns)
theorem Dats.ofBls : ∀ {ns : List Bool} {vs : List V}, Dats S (ns.map D.bl) vs → vs = ns.map V.bl
  | [], vs, h => by unfold Dats at h; exact h
  | n :: ns, vs, h => by
    unfold Dats at h
    obtain ⟨v, r, rfl, h2, h3⟩ := h
    unfold Dat at h2
    subst h2
    simp only [List.map_cons, Dats.ofBls h3]
end

/-! ### what is owned by a slot -/
inductive Cn where
  | lst (xs : List D) | dct (ks : List Key) (xs : List D) | obj (c : Str) (fs : List Str) (xs : List D)
def Cn.d : Cn → D
  | .lst xs => .lst xs
  | .dct ks xs => .dct ks xs
  | .obj c fs xs => .obj c fs xs
def CnOk (S : Hp) : Cn → HO → Prop
  | .lst xs, o => ∃ vs, o = .lst vs ∧ Dats S xs vs
  | .dct ks xs, o => ∃ kvs, o = .dK kvs ∧ kvs.map (·.1) = ks ∧ Dats S xs (kvs.map (·.2))
  | .obj c fs xs, o => ∃ dx kvs, o = .ins (KC.ca c) dx kvs ∧ kvs.map (·.1) = fs ∧ Dats S xs (kvs.map (·.2))
theorem CnOk.mono {S T : Hp} (e : Same S T) : ∀ {c : Cn} {o : HO}, CnOk S c o → CnOk T c o
  | .lst xs, o, ⟨vs, h1, h2⟩ => ⟨vs, h1, Dats.mono e _ _ h2⟩
  | .dct ks xs, o, ⟨vs, h1, h2, h3⟩ => ⟨vs, h1, h2, Dats.mono e _ _ h3⟩
  | .obj c fs xs, o, ⟨dx, vs, h1, h2, h3⟩ => ⟨dx, vs, h1, h2, Dats.mono e _ _ h3⟩
theorem CnOk.dat {S : Hp} {a : Addr} {o : HO} (h : S a = some o) : ∀ {c : Cn}, CnOk S c o → Dat S c.d (.ref a)
  | .lst xs, ⟨vs, h1, h2⟩ => by
    subst h1
    show Dat S (.lst xs) _
    unfold Dat
    exact ⟨a, vs, rfl, h, h2⟩
  | .dct ks xs, ⟨vs, h1, h2, h3⟩ => by
    subst h1
    show Dat S (.dct ks xs) _
    unfold Dat
    exact ⟨a, vs, rfl, h, h2, h3⟩
  | .obj c fs xs, ⟨dx, vs, h1, h2, h3⟩ => by
    subst h1
    show Dat S (.obj c fs xs) _
    unfold Dat
    exact ⟨a, dx, vs, rfl, h, h2, h3⟩
theorem CnOk.ntb {S : Hp} {o : HO} : ∀ {c : Cn}, CnOk S c o → (∀ ps, o ≠ .tbl ps) ∧ ∀ φ, o ≠ .ext φ
  | .lst xs, ⟨vs, h1, _⟩ => by subst h1; exact ⟨(fun _ z => by cases z), (fun _ z => by cases z)⟩
  | .dct ks xs, ⟨vs, h1, _⟩ => by subst h1; exact ⟨(fun _ z => by cases z), (fun _ z => by cases z)⟩
  | .obj c fs xs, ⟨dx, vs, h1, _⟩ => by subst h1; exact ⟨(fun _ z => by cases z), (fun _ z => by cases z)⟩

inductive Sl where
  | un | fz (d : D) | own (m : Bool) (c : Cn)
abbrev Ev := List Sl
abbrev XS := Str → Prop

/-- a def's frame: the heap and the shared data at its entry; what it may change -/
structure Fr where
  H0 : Hp
  S0 : Hp
  M : Addr → Prop

/-- all stays but the tables of code objects, which grow -/
structure ExtT (H H' : Hp) : Prop where
  keep : ∀ b o, H b = some o → (∀ ps, o ≠ .tbl ps) → H' b = some o
  ne : ∀ b, H b ≠ none → H' b ≠ none
  tab : ∀ P q, (P, q) ∈ KC.T → LamX.TabS H P q → LamX.TabS H' P q
theorem same_ne {H H' : Hp} (e : Same H H') {a : Addr} (h : H a ≠ none) : H' a ≠ none := by
  cases q : H a with
  | none => exact absurd q h
  | some o => rw [e a o q]; intro z; cases z
theorem ExtT.of {H H' : Hp} (e : Same H H') : ExtT H H' := ⟨fun b o h _ => e b o h, fun b h => same_ne e h, fun _ _ _ h => h.ext e⟩
theorem ExtT.refl {H : Hp} : ExtT H H := .of (.refl _)
theorem ExtT.trans {H H1 H2 : Hp} (a : ExtT H H1) (b : ExtT H1 H2) : ExtT H H2 := ⟨fun c o h n => b.keep c o (a.keep c o h n) n, fun c h => b.ne c (a.ne c h), fun P q m h => b.tab P q m (a.tab P q m h)⟩
theorem ExtT.free {H H' : Hp} (e : ExtT H H') {a : Addr} (h : H' a = none) : H a = none := by
  cases q : H a with
  | none => rfl
  | some o => exact absurd h (e.ne a (by rw [q]; intro z; cases z))
theorem ExtT.lst {H H' : Hp} (e : ExtT H H') {a : Addr} {xs : List V} (h : H a = some (.lst xs)) : H' a = some (.lst xs) := e.keep a _ h (fun _ z => by cases z)
theorem ExtT.dK {H H' : Hp} (e : ExtT H H') {a : Addr} {xs : List (Key × V)} (h : H a = some (.dK xs)) : H' a = some (.dK xs) := e.keep a _ h (fun _ z => by cases z)
theorem ExtT.ins {H H' : Hp} (e : ExtT H H') {a C dx : Addr} {xs : List (Str × V)} (h : H a = some (.ins C dx xs)) : H' a = some (.ins C dx xs) := e.keep a _ h (fun _ z => by cases z)
theorem ExtT.cn {H H' S : Hp} (e : ExtT H H') {a : Addr} {o : HO} {c : Cn} (h : H a = some o) (k : CnOk S c o) : H' a = some o := e.keep a _ h k.ntb.1
/-- a thing that is neither a table nor a code object is written -/
theorem ExtT.put {H : Hp} {p : Addr} {o o' : HO} (h : H p = some o) (n1 : ∀ ps, o ≠ .tbl ps) (n2 : ∀ φ, o ≠ .ext φ) : (∀ b, H b ≠ none → upd H p o' b ≠ none) ∧ ∀ P q, LamX.TabS H P q → LamX.TabS (upd H p o') P q := by
  refine ⟨fun b hb => ?_, fun P q ⟨ps, h1, h2, h3⟩ => ⟨ps, ?_, h2, fun pos cv hc => ?_⟩⟩
  · by_cases z : b = p
    · subst z; rw [upd_same]; intro z; cases z
    · rw [upd_ne z]; exact hb
  · rw [upd_ne (fun z => n1 ps (by rw [z, h] at h1; exact Option.some.inj h1))]
    exact h1
  · obtain ⟨c, e1, e2⟩ := h3 pos cv hc
    refine ⟨c, e1, ?_⟩
    rw [upd_ne (fun z => n2 _ (by rw [z, h] at e2; exact Option.some.inj e2))]
    exact e2
theorem ExtT.lay {H H' : Hp} (e : ExtT H H') {p : Addr} {o : HO} (h : H' p = none) : ExtT H (upd H' p o) := e.trans (.of fun b x z => by
  rw [upd_ne (ne_of_none z h)]
  exact z)
theorem ExtT.over {H H' : Hp} (e : ExtT H H') {p : Addr} {o o' : HO} (h0 : H p = none) (h : H' p = some o) (n1 : ∀ ps, o ≠ .tbl ps) (n2 : ∀ φ, o ≠ .ext φ) : ExtT H (upd H' p o') := by
  have et := ExtT.put (o' := o') h n1 n2
  refine ⟨fun b x hb n => ?_, fun b hb => et.1 b (e.ne b hb), fun P q m hq => et.2 P q (e.tab P q m hq)⟩
  rw [upd_ne (ne_of_none hb h0)]
  exact e.keep b x hb n
/-- the heap grows, the shared data with it -/
structure Grow (H S H' S' : Hp) : Prop where
  hh : ExtT H H'
  ss : Same S S'
  sh : Same S' H'
  nw : ∀ a, H a ≠ none → S' a = S a
/-- the tables of code objects, none of them shared data -/
def Tbq (S H : Hp) : Prop := LamX.Tabs KC.T H ∧ ∀ p ∈ KC.T, S p.1 = none
theorem tab_ne {H : Hp} {P : Addr} {q : Str} (h : LamX.TabS H P q) : H P ≠ none := by
  obtain ⟨ps, h, _⟩ := h
  rw [h]
  intro z
  cases z
theorem Tbq.grow {H S H1 S1 : Hp} (t : Tbq S H) (g : Grow H S H1 S1) : Tbq S1 H1 := ⟨fun p hp => g.hh.tab _ _ hp (t.1 p hp), fun p hp => (g.nw p.1 (tab_ne (t.1 p hp))).trans (t.2 p hp)⟩
theorem Tbq.frz {H S : Hp} {p : Addr} {o o' : HO} (t : Tbq S H) (h : H p = some o) (n : ∀ ps, o ≠ .tbl ps) : Tbq (upd S p o') H := ⟨t.1, fun x hx => by
  rw [upd_ne (fun z => ?_)]
  · exact t.2 x hx
  · obtain ⟨ps, h2, _⟩ := t.1 x hx
    rw [z, h] at h2
    exact n ps (Option.some.inj h2)⟩
structure FGrow (F : Fr) (H S : Hp) : Prop where
  hh : ∀ a o, ¬ F.M a → F.H0 a = some o → (∀ ps, o ≠ .tbl ps) → H a = some o
  al : ∀ a, F.H0 a ≠ none → H a ≠ none
  ss : Same F.S0 S
  sh : Same S H
  nw : ∀ a, F.H0 a ≠ none → S a = F.S0 a
  ft : ∀ P q, (P, q) ∈ KC.T → LamX.TabS F.H0 P q → LamX.TabS H P q
  tb : Tbq S H
section
variable {F : Fr} {H S H1 S1 H2 S2 : Hp}
theorem Grow.refl (e : Same S H) : Grow H S H S := ⟨.refl, .refl _, e, fun _ _ => rfl⟩
theorem Grow.trans (a : Grow H S H1 S1) (b : Grow H1 S1 H2 S2) : Grow H S H2 S2 :=
  ⟨a.hh.trans b.hh, a.ss.trans b.ss, b.sh, fun x h => (b.nw x (a.hh.ne _ h)).trans (a.nw x h)⟩
theorem FGrow.grow (f : FGrow F H S) (g : Grow H S H1 S1) : FGrow F H1 S1 :=
  ⟨fun a o m h n => g.hh.keep a o (f.hh a o m h n) n, fun a h => g.hh.ne _ (f.al a h), f.ss.trans g.ss, g.sh, fun a h => (g.nw a (f.al a h)).trans (f.nw a h), fun P q m h => g.hh.tab P q m (f.ft P q m h), f.tb.grow g⟩
theorem same_upd {p : Addr} {o : HO} (h : H p = none) : Same H (upd H p o) := fun b x e => by
  rw [upd_ne (ne_of_none e h)]
  exact e
theorem same_upd2 {p : Addr} {o : HO} (e : Same S H) (h : H p = some o) : Same (upd S p o) H := fun b x q => by
  by_cases z : b = p
  · subst z
    rw [upd_same] at q
    rw [h]
    exact q
  · rw [upd_ne z] at q
    exact e b x q
/-- a new thing is laid, not shared -/
theorem Grow.lay {p : Addr} {o : HO} (g : Grow H S H1 S1) (h : H1 p = none) : Grow H S (upd H1 p o) S1 :=
  ⟨g.hh.lay h, g.ss, g.sh.trans (same_upd h), g.nw⟩
/-- a new thing is shared -/
theorem Grow.share {p : Addr} {o : HO} (g : Grow H S H1 S1) (h : H p = none) (h1 : S1 p = none) (h2 : H1 p = some o) : Grow H S H1 (upd S1 p o) :=
  ⟨g.hh, g.ss.trans (same_upd h1), same_upd2 g.sh h2, fun a ha => by
    rw [upd_ne (fun z => ha (by rw [z]; exact h))]
    exact g.nw a ha⟩
theorem Grow.freeS (g : Grow H S H1 S1) {p : Addr} (h : H1 p = none) : S1 p = none := g.sh.free h
theorem Grow.freeH (g : Grow H S H1 S1) {p : Addr} (h : H1 p = none) : H p = none := g.hh.free h
end

/-- what stands at a slot -/
def SlOk (F : Fr) (H S : Hp) : Sl → Option (Option V) → Prop
  | .un, _ => True
  | .fz d, x => ∃ v, x = some (some v) ∧ Dat S d v
  | .own m c, x => ∃ p o, x = some (some (.ref p)) ∧ S p = none ∧ H p = some o ∧ CnOk S c o ∧ (m = true → F.M p) ∧ (m = false → F.H0 p = none)
structure Rep (F : Fr) (ρ : Ev) (σ : St) (H S : Hp) : Prop where
  fg : FGrow F H S
  len : σ.length = ρ.length
  at' : ∀ (i : Nat) (sl : Sl), ρ[i]? = some sl → SlOk F H S sl σ[i]?
  dist : ∀ (i j : Nat) (m m' : Bool) (c c' : Cn), i ≠ j → ρ[i]? = some (.own m c) → ρ[j]? = some (.own m' c') → σ[i]? ≠ σ[j]?
section
variable {F : Fr} {ρ : Ev} {σ : St} {H S H1 S1 : Hp}
theorem Rep.sh (r : Rep F ρ σ H S) : Same S H := r.fg.sh
theorem SlOk.grow (g : Grow H S H1 S1) : ∀ {sl : Sl} {x : Option (Option V)}, SlOk F H S sl x → SlOk F H1 S1 sl x
  | .un, _, _ => trivial
  | .fz d, _, ⟨v, e, h⟩ => ⟨v, e, Dat.mono g.ss d v h⟩
  | .own m c, _, ⟨p, o, e, h1, h2, h3, h4⟩ => ⟨p, o, e, by rw [g.nw p (by rw [h2]; intro z; cases z)]; exact h1, g.hh.cn h2 h3, h3.mono g.ss, h4⟩
theorem Rep.grow (r : Rep F ρ σ H S) (g : Grow H S H1 S1) : Rep F ρ σ H1 S1 :=
  ⟨r.fg.grow g, r.len, fun i sl h => (r.at' i sl h).grow g, r.dist⟩
theorem Rep.fz {i : Nat} {d : D} (r : Rep F ρ σ H S) (h : ρ[i]? = some (.fz d)) : ∃ v, σ[i]? = some (some v) ∧ Dat S d v := r.at' i _ h
theorem Rep.own {i : Nat} {m : Bool} {c : Cn} (r : Rep F ρ σ H S) (h : ρ[i]? = some (.own m c)) :
    ∃ p o, σ[i]? = some (some (.ref p)) ∧ S p = none ∧ H p = some o ∧ CnOk S c o ∧ (m = true → F.M p) ∧ (m = false → F.H0 p = none) := r.at' i _ h
/-- a slot is set to shared data -/
theorem Rep.set {i : Nat} {d : D} {v : V} (r : Rep F ρ σ H S) (h : Dat S d v) : Rep F (ρ.set i (.fz d)) (σ.set i (some v)) H S := by
  refine ⟨r.fg, by simp [r.len], fun j sl e => ?_, fun j k m m' c c' n e1 e2 => ?_⟩
  · by_cases z : i = j
    · subst z
      by_cases hl : i < ρ.length
      · rw [List.getElem?_set_self hl] at e
        cases e
        exact ⟨v, by rw [List.getElem?_set_self (by rw [r.len]; exact hl)], h⟩
      · rw [List.getElem?_eq_none (by simpa using hl)] at e
        cases e
    · rw [List.getElem?_set_ne z] at e ⊢
      exact r.at' j sl e
  · have z1 : i ≠ j := fun z => by
      subst z
      rw [List.getElem?_set] at e1
      simp at e1
    have z2 : i ≠ k := fun z => by
      subst z
      rw [List.getElem?_set] at e2
      simp at e2
    rw [List.getElem?_set_ne z1] at e1 ⊢
    rw [List.getElem?_set_ne z2] at e2 ⊢
    exact r.dist j k m m' c c' n e1 e2
/-- a slot is set to a new thing of its own -/
theorem Rep.setOwn {i : Nat} {c : Cn} {p : Addr} {o : HO} (r : Rep F ρ σ H S) (hS : S p = none) (hH : H p = some o) (hc : CnOk S c o) (h0 : F.H0 p = none)
    (hd : ∀ (j : Nat) (m : Bool) (c' : Cn), ρ[j]? = some (.own m c') → σ[j]? ≠ some (some (.ref p))) : Rep F (ρ.set i (.own false c)) (σ.set i (some (.ref p))) H S := by
  refine ⟨r.fg, by simp [r.len], fun j sl e => ?_, fun j k m m' c1 c2 n e1 e2 => ?_⟩
  · by_cases z : i = j
    · subst z
      by_cases hl : i < ρ.length
      · rw [List.getElem?_set_self hl] at e
        cases e
        exact ⟨p, o, by rw [List.getElem?_set_self (by rw [r.len]; exact hl)], hS, hH, hc, fun z => (by cases z), fun _ => h0⟩
      · rw [List.getElem?_eq_none (by simpa using hl)] at e
        cases e
    · rw [List.getElem?_set_ne z] at e ⊢
      exact r.at' j sl e
  · by_cases z1 : i = j
    · have z2 : i ≠ k := fun z => n (z1.symm.trans z)
      subst z1
      rw [List.getElem?_set_ne z2] at e2 ⊢
      by_cases hl : i < ρ.length
      · rw [List.getElem?_set_self (by rw [r.len]; exact hl)]
        exact fun z => hd k m' c2 e2 z.symm
      · rw [List.getElem?_eq_none (by simpa using hl)] at e1
        cases e1
    · rw [List.getElem?_set_ne z1] at e1 ⊢
      by_cases z2 : i = k
      · subst z2
        by_cases hl : i < ρ.length
        · rw [List.getElem?_set_self (by rw [r.len]; exact hl)]
          exact hd j m c1 e1
        · rw [List.getElem?_eq_none (by simpa using hl)] at e2
          cases e2
      · rw [List.getElem?_set_ne z2] at e2 ⊢
        exact r.dist j k m m' c1 c2 n e1 e2
/-- an owned thing is changed -/
theorem Rep.put {i : Nat} {m : Bool} {c c' : Cn} {p : Addr} {o' : HO} (r : Rep F ρ σ H S) (h : ρ[i]? = some (.own m c)) (hp : σ[i]? = some (some (.ref p))) (hc : CnOk S c' o') :
    Rep F (ρ.set i (.own m c')) σ (upd H p o') S := by
  obtain ⟨p', o1, e1, e2, e3, e4, e5, e6⟩ := r.own h
  have : p' = p := by
    rw [e1] at hp
    cases hp
    rfl
  subst this
  have hl : i < ρ.length := by
    rcases Nat.lt_or_ge i ρ.length with q | q
    · exact q
    · rw [List.getElem?_eq_none q] at h
      cases h
  have et := ExtT.put (o' := o') e3 e4.ntb.1 e4.ntb.2
  refine ⟨⟨fun a u hm ha nt => ?_, fun a ha => ?_, r.fg.ss, fun a u ha => ?_, r.fg.nw, fun P q m h => et.2 P q (r.fg.ft P q m h), ⟨fun P h => et.2 _ _ (r.fg.tb.1 P h), r.fg.tb.2⟩⟩, by simp [r.len], fun j sl e => ?_, fun j k m1 m2 c1 c2 n q1 q2 => ?_⟩
  · have ne : a ≠ p' := fun z => by
      subst z
      cases m with
      | true => exact hm (e5 rfl)
      | false => rw [e6 rfl] at ha; cases ha
    rw [upd_ne ne]
    exact r.fg.hh a u hm ha nt
  · by_cases z : a = p'
    · subst z
      rw [upd_same]
      intro z
      cases z
    · rw [upd_ne z]
      exact r.fg.al a ha
  · rw [upd_ne (fun z => by rw [z, e2] at ha; cases ha)]
    exact r.fg.sh a u ha
  · by_cases z : i = j
    · subst z
      rw [List.getElem?_set_self hl] at e
      cases e
      exact ⟨p', o', hp, e2, upd_same, hc, e5, e6⟩
    · rw [List.getElem?_set_ne z] at e
      have q := r.at' j sl e
      cases sl with
      | un => trivial
      | fz d => exact q
      | own m3 c3 =>
        obtain ⟨p3, o3, f1, f2, f3, f4, f5⟩ := q
        refine ⟨p3, o3, f1, f2, ?_, f4, f5⟩
        rw [upd_ne (fun z3 => r.dist i j m m3 c c3 z h e (by rw [hp, f1, z3]))]
        exact f3
  · have conv : ∀ (l : Nat) (m4 : Bool) (c4 : Cn), (ρ.set i (.own m c'))[l]? = some (.own m4 c4) → ∃ m5 c5, ρ[l]? = some (.own m5 c5) := fun l m4 c4 q => by
      by_cases z : i = l
      · subst z
        exact ⟨m, c, h⟩
      · rw [List.getElem?_set_ne z] at q
        exact ⟨_, _, q⟩
    obtain ⟨_, _, w1⟩ := conv _ _ _ q1
    obtain ⟨_, _, w2⟩ := conv _ _ _ q2
    exact r.dist j k _ _ _ _ n w1 w2
/-- an owned thing is shared from here on -/
theorem Rep.frz {i : Nat} {c : Cn} (r : Rep F ρ σ H S) (h : ρ[i]? = some (.own false c)) : ∃ S', Rep F (ρ.set i (.fz c.d)) σ H S' := by
  obtain ⟨p, o, e1, e2, e3, e4, _, e6⟩ := r.own h
  have h0 := e6 rfl
  have hl : i < ρ.length := by
    rcases Nat.lt_or_ge i ρ.length with q | q
    · exact q
    · rw [List.getElem?_eq_none q] at h
      cases h
  have ss : Same S (upd S p o) := same_upd e2
  refine ⟨upd S p o, ⟨r.fg.hh, r.fg.al, r.fg.ss.trans ss, same_upd2 r.fg.sh e3, fun a ha => ?_, r.fg.ft, r.fg.tb.frz e3 e4.ntb.1⟩, by simp [r.len], fun j sl e => ?_, fun j k m1 m2 c1 c2 n q1 q2 => ?_⟩
  · rw [upd_ne (fun z => ha (by rw [z]; exact h0))]
    exact r.fg.nw a ha
  · by_cases z : i = j
    · subst z
      rw [List.getElem?_set_self hl] at e
      cases e
      exact ⟨.ref p, e1, CnOk.dat upd_same (e4.mono ss)⟩
    · rw [List.getElem?_set_ne z] at e
      have q := r.at' j sl e
      cases sl with
      | un => trivial
      | fz d =>
        obtain ⟨v, f1, f2⟩ := q
        exact ⟨v, f1, Dat.mono ss d v f2⟩
      | own m3 c3 =>
        obtain ⟨p3, o3, f1, f2, f3, f4, f5⟩ := q
        refine ⟨p3, o3, f1, ?_, f3, f4.mono ss, f5⟩
        rw [upd_ne (fun z3 => r.dist i j false m3 c c3 z h e (by rw [e1, f1, z3]))]
        exact f2
  · have conv : ∀ (l : Nat) (m4 : Bool) (c4 : Cn), (ρ.set i (.fz c.d))[l]? = some (.own m4 c4) → ρ[l]? = some (.own m4 c4) := fun l m4 c4 q => by
      by_cases z : i = l
      · subst z
        rw [List.getElem?_set_self hl] at q
        cases q
      · rw [List.getElem?_set_ne z] at q
        exact q
    exact r.dist j k _ _ _ _ n (conv _ _ _ q1) (conv _ _ _ q2)
theorem Rep.unset {i : Nat} {x : Option V} (r : Rep F ρ σ H S) : Rep F (ρ.set i .un) (σ.set i x) H S := by
  refine ⟨r.fg, by simp [r.len], fun j sl e => ?_, fun j k m m' c c' n e1 e2 => ?_⟩
  · by_cases z : i = j
    · subst z
      by_cases hl : i < ρ.length
      · rw [List.getElem?_set_self hl] at e
        cases e
        trivial
      · rw [List.getElem?_eq_none (by simpa using hl)] at e
        cases e
    · rw [List.getElem?_set_ne z] at e ⊢
      exact r.at' j sl e
  · have z1 : i ≠ j := fun z => by
      subst z
      rw [List.getElem?_set] at e1
      simp at e1
    have z2 : i ≠ k := fun z => by
      subst z
      rw [List.getElem?_set] at e2
      simp at e2
    rw [List.getElem?_set_ne z1] at e1 ⊢
    rw [List.getElem?_set_ne z2] at e2 ⊢
    exact r.dist j k m m' c c' n e1 e2
end
end NL

namespace NL
open PySem PySem.Spec L2
open PyProof.Rows hiding St

/-- simp leaves alone what a mark speaks of -/
structure Tg {α : Sort u} (a : α) : Type where
/-- one of two ways -/
def Br (b : Bool) (A B : Prop) (_ : Tg A) (_ : Tg B) : Prop := match b with
  | true => A
  | false => B
theorem Br_true {A B : Prop} {s : Tg A} {t : Tg B} : Br true A B s t = A := rfl
theorem Br_false {A B : Prop} {s : Tg A} {t : Tg B} : Br false A B s t = B := rfl
theorem Br_not {b : Bool} {A B : Prop} {s : Tg A} {t : Tg B} : Br (!b) A B s t = Br b B A t s := by cases b <;> rfl
theorem Br.i {b : Bool} {A B : Prop} {s : Tg A} {t : Tg B} (h1 : b = true → A) (h2 : b = false → B) : Br b A B s t := by
  cases b with
  | true => exact h1 rfl
  | false => exact h2 rfl
theorem Br.d {p : Prop} [Decidable p] {A B : Prop} {s : Tg A} {t : Tg B} (h1 : p → A) (h2 : ¬ p → B) : Br (decide p) A B s t :=
  .i (fun h => h1 (of_decide_eq_true h)) fun h => h2 (of_decide_eq_false h)
theorem Br.t {p : Prop} [Decidable p] {A B : Prop} {s : Tg A} {t : Tg B} (h : p) (h1 : A) : Br (decide p) A B s t := .d (fun _ => h1) fun z => absurd h z
theorem Br.f {p : Prop} [Decidable p] {A B : Prop} {s : Tg A} {t : Tg B} (h : ¬ p) (h1 : B) : Br (decide p) A B s t := .d (fun z => absurd z h) fun _ => h1
variable [KC]
/-! ### what an exception is wished for -/
theorem passN {X : Cx} : Passes (L2N.CX X.prog X.w) X E0 := fun _ _ _ _ _ _ _ h => by
  obtain ⟨_, _, _, _, _, _, _, _, _, _, _, _, z⟩ := h
  exact z.elim
theorem takesN {X : Cx} : L2N.Takes X (fun _ _ _ _ => False) := fun _ _ h => by
  obtain ⟨_, _, _, _, _, _, _, _, _, _, _, _, _, _, _, _, z⟩ := h
  exact z.elim
structure XOk (X : Cx) (E : XK) : Prop where
  pass : Passes (L2N.CX X.prog X.w) X E
  take : L2N.Takes X (fun cls d _ H => E cls d H)
  own : PassesOwn (model X.prog X.w) X.A X.env X.xe
theorem xkb {X : Cx} {s : Shared} {H : Hp} {sc : Scope} {cenv : Env} {fp : List Addr} : XOk (X.blk s H sc cenv fp) E0 := ⟨passN, takesN, PassesOwn.never⟩
def ExOk (mg : Str → Option Value) (E : XK) (x : XS) (H S : Hp) : Prop := ∀ n C H' S', x n → mg n = some (.ref C) → Grow H S H' S' → E (.ref C) none H'
theorem ExOk.grow {mg : Str → Option Value} {E : XK} {x : XS} {H S H1 S1 : Hp} (h : ExOk mg E x H S) (g : Grow H S H1 S1) : ExOk mg E x H1 S1 :=
  fun n C H' S' a b c => h n C H' S' a b (g.trans c)

/-! ### data that is read: the thing itself may be owned by a slot -/
def BDat (H S : Hp) : D → V → Prop
  | .lst xs, v => ∃ a vs, v = .ref a ∧ H a = some (.lst vs) ∧ Dats S xs vs
  | .dct ks xs, v => ∃ a kvs, v = .ref a ∧ H a = some (.dK kvs) ∧ kvs.map (·.1) = ks ∧ Dats S xs (kvs.map (·.2))
  | .obj c fs xs, v => ∃ a dx kvs, v = .ref a ∧ H a = some (.ins (KC.ca c) dx kvs) ∧ kvs.map (·.1) = fs ∧ Dats S xs (kvs.map (·.2))
  | d, v => Dat S d v
section
variable {H S H1 S1 : Hp}
theorem BDat.of (sh : Same S H) : ∀ {d : D} {v : V}, Dat S d v → BDat H S d v
  | .lst xs, v, h => by
    unfold Dat at h
    obtain ⟨a, vs, e, r, q⟩ := h
    exact ⟨a, vs, e, sh _ _ r, q⟩
  | .dct ks xs, v, h => by
    unfold Dat at h
    obtain ⟨a, vs, e, r, q, z⟩ := h
    exact ⟨a, vs, e, sh _ _ r, q, z⟩
  | .dkz _ _, _, h => h
  | .obj c fs xs, v, h => by
    unfold Dat at h
    obtain ⟨a, o, vs, e, r, q, z⟩ := h
    exact ⟨a, o, vs, e, sh _ _ r, q, z⟩
  | .non, _, h => h
  | .bl _, _, h => h
  | .int _, _, h => h
  | .str _, _, h => h
  | .ref _, _, h => h
  | .scr _, _, h => h
  | .tup _, _, h => h
theorem BDat.full (sh : Same S H) : ∀ {d : D} {v : V}, BDat H S d v → Dat H d v
  | .lst xs, v, ⟨a, vs, e, r, q⟩ => by
    unfold Dat
    exact ⟨a, vs, e, r, Dats.mono sh _ _ q⟩
  | .dct ks xs, v, ⟨a, vs, e, r, q, z⟩ => by
    unfold Dat
    exact ⟨a, vs, e, r, q, Dats.mono sh _ _ z⟩
  | .dkz ks xs, v, h => Dat.mono sh (.dkz ks xs) v h
  | .obj c fs xs, v, ⟨a, dx, vs, e, r, q, z⟩ => by
    unfold Dat
    exact ⟨a, dx, vs, e, r, q, Dats.mono sh _ _ z⟩
  | .non, _, h => h
  | .bl _, _, h => h
  | .int _, _, h => h
  | .str _, _, h => h
  | .ref _, _, h => h
  | .scr ns, v, h => Dat.mono sh (.scr ns) v h
  | .tup xs, v, h => Dat.mono sh (.tup xs) v h
theorem BDat.grow (g : Grow H S H1 S1) : ∀ {d : D} {v : V}, BDat H S d v → BDat H1 S1 d v
  | .lst xs, v, ⟨a, vs, e, r, q⟩ => ⟨a, vs, e, g.hh.lst r, Dats.mono g.ss _ _ q⟩
  | .dct ks xs, v, ⟨a, vs, e, r, q, z⟩ => ⟨a, vs, e, g.hh.dK r, q, Dats.mono g.ss _ _ z⟩
  | .dkz ks xs, v, h => Dat.mono g.ss (.dkz ks xs) v h
  | .obj c fs xs, v, ⟨a, dx, vs, e, r, q, z⟩ => ⟨a, dx, vs, e, g.hh.ins r, q, Dats.mono g.ss _ _ z⟩
  | .non, _, h => h
  | .bl _, _, h => h
  | .int _, _, h => h
  | .str _, _, h => h
  | .ref _, _, h => h
  | .scr ns, v, h => Dat.mono g.ss (.scr ns) v h
  | .tup xs, v, h => Dat.mono g.ss (.tup xs) v h
end

abbrev WE := XS → Ev → (D → Prop) → Prop
abbrev WL := XS → Ev → (List D → Prop) → Prop
abbrev WT := XS → Ev → (Bool → Prop) → Prop

/-- an expression that tells shared data -/
structure ED (X : Cx) (E : XK) (e : Expr) (w : WE) : Prop where
  ex : ∃ t, PE X e t ∧ ∀ (x : XS) (ρ : Ev) (Q : D → Prop), w x ρ Q → ∀ (F : Fr) (σ : L2.St) (H S : Hp) (Q' : VK), Rep F ρ σ H S → ExOk X.mg E x H S →
    (∀ d v H' S', Q d → Grow H S H' S' → Dat S' d v → Q' v H') → t σ H Q'
/-- .. data to be read -/
structure BD (X : Cx) (E : XK) (e : Expr) (w : WE) : Prop where
  ex : ∃ t, PE X e t ∧ ∀ (x : XS) (ρ : Ev) (Q : D → Prop), w x ρ Q → ∀ (F : Fr) (σ : L2.St) (H S : Hp) (Q' : VK), Rep F ρ σ H S → ExOk X.mg E x H S →
    (∀ d v H' S', Q d → Grow H S H' S' → BDat H' S' d v → Q' v H') → t σ H Q'
/-- .. a new list, nobody else's -/
structure DF (X : Cx) (E : XK) (e : Expr) (w : WL) : Prop where
  ex : ∃ t, PE X e t ∧ ∀ (x : XS) (ρ : Ev) (Q : List D → Prop), w x ρ Q → ∀ (F : Fr) (σ : L2.St) (H S : Hp) (Q' : VK), Rep F ρ σ H S → ExOk X.mg E x H S →
    (∀ xs p vs H' S', Q xs → Grow H S H' S' → H p = none → S' p = none → H' p = some (.lst vs) → Dats S' xs vs → Q' (.ref p) H') → t σ H Q'
/-- a test -/
structure TD (X : Cx) (E : XK) (e : Expr) (w : WT) : Prop where
  ex : ∃ t, PT X e t ∧ ∀ (x : XS) (ρ : Ev) (Q : Bool → Prop), w x ρ Q → ∀ (F : Fr) (σ : L2.St) (H S : Hp) (Q' : Bool → Hp → Prop), Rep F ρ σ H S → ExOk X.mg E x H S →
    (∀ b H' S', Q b → Grow H S H' S' → Q' b H') → t σ H Q'
structure WD (X : Cx) (E : XK) (e : Expr) (w : WT) : Prop where
  ex : ∃ t, PW X e t ∧ ∀ (x : XS) (ρ : Ev) (Q : Bool → Prop), w x ρ Q → ∀ (F : Fr) (σ : L2.St) (H S : Hp) (Q' : Bool → Hp → Prop), Rep F ρ σ H S → ExOk X.mg E x H S →
    (∀ b H' S', Q b → Grow H S H' S' → Q' b H') → t σ H Q'
/-- arguments, shared -/
structure AD (X : Cx) (E : XK) (es : List Expr) (w : WL) : Prop where
  ex : ∃ t, PA X es t ∧ ∀ (x : XS) (ρ : Ev) (Q : List D → Prop), w x ρ Q → ∀ (F : Fr) (σ : L2.St) (H S : Hp) (Q' : List V → Hp → Prop), Rep F ρ σ H S → ExOk X.mg E x H S →
    (∀ ds vs H' S', Q ds → Grow H S H' S' → Dats S' ds vs → Q' vs H') → t σ H Q'
/-- data read, side by side -/
def BDats (H S : Hp) : List D → List V → Prop
  | [], vs => vs = []
  | d :: ds, vs => ∃ v r, vs = v :: r ∧ BDat H S d v ∧ BDats H S ds r
theorem BDats.grow {H S H1 S1 : Hp} (g : Grow H S H1 S1) : ∀ {ds : List D} {vs : List V}, BDats H S ds vs → BDats H1 S1 ds vs
  | [], _, h => h
  | d :: ds, vs, ⟨v, r, e, h, q⟩ => ⟨v, r, e, h.grow g, BDats.grow g q⟩
theorem BDats.of {H S : Hp} (sh : Same S H) : ∀ {ds : List D} {vs : List V}, Dats S ds vs → BDats H S ds vs
  | [], _, h => by unfold Dats at h; exact h
  | d :: ds, vs, h => by
    unfold Dats at h
    obtain ⟨v, r, e, h, q⟩ := h
    exact ⟨v, r, e, BDat.of sh h, BDats.of sh q⟩
/-- arguments, read -/
structure AB (X : Cx) (E : XK) (es : List Expr) (w : WL) : Prop where
  ex : ∃ t, PA X es t ∧ ∀ (x : XS) (ρ : Ev) (Q : List D → Prop), w x ρ Q → ∀ (F : Fr) (σ : L2.St) (H S : Hp) (Q' : List V → Hp → Prop), Rep F ρ σ H S → ExOk X.mg E x H S →
    (∀ ds vs H' S', Q ds → Grow H S H' S' → BDats H' S' ds vs → Q' vs H') → t σ H Q'

section
variable {X : Cx} {E : XK} {e a b : Expr} {es : List Expr} {pos : Pos} {w wa wb : WE} {wl : WL}

/-! ### from one kind to another -/
theorem bd (h : ED X E e w) : BD X E e w := by
  obtain ⟨t, p, s⟩ := h.ex
  exact ⟨t, p, fun x ρ Q hw F σ H S Q' r ex k => s x ρ Q hw F σ H S Q' r ex fun d v H' S' q g hd => k d v H' S' q g (BDat.of g.sh hd)⟩
/-- a new list is shared at once -/
def wNew (wl : WL) : WE := fun x ρ Q => wl x ρ fun xs => Q (.lst xs)
theorem ed_new (h : DF X E e wl) : ED X E e (wNew wl) := by
  obtain ⟨t, p, s⟩ := h.ex
  refine ⟨t, p, fun x ρ Q hw F σ H S Q' r ex k => s x ρ _ hw F σ H S Q' r ex fun xs p vs H' S' q g h0 h1 h2 hd => ?_⟩
  refine k _ _ H' (upd S' p (.lst vs)) q (g.share h0 h1 h2) ?_
  unfold Dat
  exact ⟨p, vs, rfl, upd_same, Dats.mono (same_upd h1) _ _ hd⟩
theorem bd_new (h : DF X E e wl) : BD X E e (wNew wl) := bd (ed_new h)

/-! ### names and constants -/
def wVar (i : Nat) : WE := fun _ ρ Q => match ρ[i]? with
  | some (.fz d) => Q d
  | _ => False
theorem ed_var (i : Nat) {x : Str} (hN : X.N[i]? = some x := by rfl) (hv : Vis X.env.scope x := by first | exact Or.inl rfl | exact Or.inr (Or.inl rfl) | exact Or.inr (Or.inr rfl)) (hd : (x == ("__debug__" : Str)) = false := by decide)
    (hcd : (x == ("__classdict__" : Str)) = false := by decide) : ED X E (.Name x pos) (wVar i) := by
  refine ⟨_, pe_var hN hv hd hcd, fun x ρ Q hw F σ H S Q' r ex k => ?_⟩
  unfold wVar at hw
  split at hw
  · rename_i d hi
    obtain ⟨v, e, h⟩ := r.fz hi
    exact ⟨v, e, k d v H S hw (.refl r.sh) h⟩
  · exact hw.elim
/-- a slot's own thing, read -/
def wOwn (i : Nat) : WE := fun _ ρ Q => match ρ[i]? with
  | some (.own _ c) => Q c.d
  | some (.fz d) => Q d
  | _ => False
theorem bd_own (i : Nat) {x : Str} (hN : X.N[i]? = some x := by rfl) (hv : Vis X.env.scope x := by first | exact Or.inl rfl | exact Or.inr (Or.inl rfl) | exact Or.inr (Or.inr rfl)) (hd : (x == ("__debug__" : Str)) = false := by decide)
    (hcd : (x == ("__classdict__" : Str)) = false := by decide) : BD X E (.Name x pos) (wOwn i) := by
  refine ⟨_, pe_var hN hv hd hcd, fun x ρ Q hw F σ H S Q' r ex k => ?_⟩
  unfold wOwn at hw
  split at hw
  · rename_i m c hi
    obtain ⟨p, o, e, h1, h2, h3, _⟩ := r.own hi
    refine ⟨.ref p, e, k c.d _ H S hw (.refl r.sh) ?_⟩
    cases c with
    | lst xs =>
      obtain ⟨vs, rfl, q⟩ := h3
      exact ⟨p, vs, rfl, h2, q⟩
    | dct ks xs =>
      obtain ⟨vs, rfl, q, q2⟩ := h3
      exact ⟨p, vs, rfl, h2, q, q2⟩
    | obj c fs xs =>
      obtain ⟨dx, vs, rfl, q, q2⟩ := h3
      exact ⟨p, dx, vs, rfl, h2, q, q2⟩
  · rename_i d hi
    obtain ⟨v, e, h⟩ := r.fz hi
    exact ⟨v, e, k d v H S hw (.refl r.sh) (BDat.of r.sh h)⟩
  · exact hw.elim
def wC (d : D) : WE := fun _ _ Q => Q d
theorem ed_int {i j} : ED X E (.Constant (.int i) j pos) (wC (.int i)) :=
  ⟨_, pe_int, fun x ρ Q hw F σ H S Q' r ex k => k _ _ H S hw (.refl r.sh) (by unfold Dat; rfl)⟩
theorem ed_bl {i j} : ED X E (.Constant (.bool i) j pos) (wC (.bl i)) :=
  ⟨_, pe_bl, fun x ρ Q hw F σ H S Q' r ex k => k _ _ H S hw (.refl r.sh) (by unfold Dat; rfl)⟩
theorem ed_non {j} : ED X E (.Constant .none j pos) (wC .non) :=
  ⟨_, pe_non, fun x ρ Q hw F σ H S Q' r ex k => k _ _ H S hw (.refl r.sh) (by unfold Dat; rfl)⟩
theorem ed_str {i j} : ED X E (.Constant (.str i) j pos) (wC (.str i)) :=
  ⟨_, pe_str, fun x ρ Q hw F σ H S Q' r ex k => k _ _ H S hw (.refl r.sh) (by unfold Dat; rfl)⟩
/-- a constant text of the module -/
theorem ed_glob {x : Str} {u : Value} {d : D} {v : V} (hg : Gl X x) (hm : X.mg x = some u) (r : RelV v u) (hd : ∀ S, Dat S d v) (hdb : (x == ("__debug__" : Str)) = false := by decide) : ED X E (.Name x pos) (wC d) :=
  ⟨_, pe_glob hg hm r hdb, fun x ρ Q hw F σ H S Q' r ex k => k _ _ H S hw (.refl r.sh) (hd S)⟩

/-! ### operators -/
structure OpD (X : Cx) (f : Value → Value → Sem Value) (g : D → D → (D → Prop) → Prop) : Prop where
  ex : ∃ r : R2, OpR X f r ∧ ∀ (d e : D) (Q : D → Prop), g d e Q → ∀ (H S : Hp) (u v : V) (Q' : VK), Same S H → BDat H S d u → BDat H S e v → (∀ z y H' S', Q z → Grow H S H' S' → Dat S' z y → Q' y H') → r u v H Q'
def wOp (g : D → D → (D → Prop) → Prop) (wa wb : WE) : WE := fun x ρ Q => wa x ρ fun d => wb x ρ fun e => g d e Q
theorem op_sound {f : Value → Value → Sem Value} {g : D → D → (D → Prop) → Prop} (ho : OpD X f g) (ha : BD X E a wa) (hb : BD X E b wb) : ∃ r ta tb, OpR X f r ∧ PE X a ta ∧ PE X b tb ∧
    ∀ (x : XS) (ρ : Ev) (Q : D → Prop), wOp g wa wb x ρ Q → ∀ (F : Fr) (σ : L2.St) (H S : Hp) (Q' : VK), Rep F ρ σ H S → ExOk X.mg E x H S →
    (∀ d v H' S', Q d → Grow H S H' S' → Dat S' d v → Q' v H') → tOp r ta tb σ H Q' := by
  obtain ⟨r, o, so⟩ := ho.ex
  obtain ⟨ta, pa, sa⟩ := ha.ex
  obtain ⟨tb, pb, sb⟩ := hb.ex
  refine ⟨r, ta, tb, o, pa, pb, fun x ρ Q hw F σ H S Q' rp ex k => ?_⟩
  refine sa x ρ _ hw F σ H S _ rp ex fun d u H1 S1 q1 g1 h1 => ?_
  refine sb x ρ _ q1 F σ H1 S1 _ (rp.grow g1) (ex.grow g1) fun e v H2 S2 q2 g2 h2 => ?_
  exact so d e Q q2 H2 S2 u v Q' g2.sh (h1.grow g2) h2 fun z y H3 S3 q3 g3 h3 => k z y H3 S3 q3 ((g1.trans g2).trans g3) h3
theorem ed_op {op : Operator} {g : D → D → (D → Prop) → Prop} (ho : OpD X (binaryOp op) g) (ha : BD X E a wa) (hb : BD X E b wb) : ED X E (.BinOp a op b pos) (wOp g wa wb) := by
  obtain ⟨r, ta, tb, o, pa, pb, s⟩ := op_sound ho ha hb
  exact ⟨_, pe_op o pa pb, s⟩
theorem ed_cmp {op : CmpOp} {g : D → D → (D → Prop) → Prop} (ho : OpD X (compareOp op) g) (ha : BD X E a wa) (hb : BD X E b wb) (hm : behindInMarks op b = false := by first | exact nomark _ | with_unfolding_all rfl) : ED X E (.Compare a [op] [b] pos) (wOp g wa wb) := by
  obtain ⟨r, ta, tb, o, pa, pb, s⟩ := op_sound ho ha hb
  exact ⟨_, pe_cmpR o pa pb hm, s⟩
/-- the truth that a comparison tells -/
def onBl (Q : Bool → Prop) : D → Prop
  | .bl k => Q k
  | _ => False
theorem onBl_sound {Q : Bool → Prop} {d : D} {S : Hp} {v : V} (h : onBl Q d) (hd : Dat S d v) : ∃ k, v = .bl k ∧ Q k := by
  cases d with
  | bl k => unfold Dat at hd; exact ⟨k, hd, h⟩
  | _ => exact h.elim
def wtOn (w : WE) : WT := fun x ρ Q => w x ρ (onBl Q)
theorem td_cmp {op : CmpOp} {g : D → D → (D → Prop) → Prop} (ho : OpD X (compareOp op) g) (ha : BD X E a wa) (hb : BD X E b wb) (hm : behindInMarks op b = false := by first | exact nomark _ | with_unfolding_all rfl) :
    TD X E (.Compare a [op] [b] pos) (wtOn (wOp g wa wb)) := by
  obtain ⟨r, ta, tb, o, pa, pb, s⟩ := op_sound ho ha hb
  refine ⟨_, pt_cmpR o pa pb hm, fun x ρ Q hw F σ H S Q' rp ex k => ?_⟩
  refine s x ρ _ hw F σ H S _ rp ex fun d v H' S' q g hd => ?_
  obtain ⟨b, rfl, q⟩ := onBl_sound q hd
  exact ⟨b, rfl, k b H' S' q g⟩
def wChain (g g' : D → D → (D → Prop) → Prop) (wa wb wc : WE) : WE := fun x ρ Q => wa x ρ fun d => wb x ρ fun e => g d e (onBl fun k => Br k (wc x ρ fun f => g' e f Q) (Q (.bl false)) ⟨⟩ ⟨⟩)
theorem chain_sound {c : Expr} {wc : WE} {f f' : Value → Value → Sem Value} {g g' : D → D → (D → Prop) → Prop} (ho : OpD X f g) (ho' : OpD X f' g') (ha : BD X E a wa) (hb : BD X E b wb) (hc : BD X E c wc) :
    ∃ r r' ta tb tc, OpR X f r ∧ OpR X f' r' ∧ PE X a ta ∧ PE X b tb ∧ PE X c tc ∧ ∀ (x : XS) (ρ : Ev) (Q : D → Prop), wChain g g' wa wb wc x ρ Q → ∀ (F : Fr) (σ : L2.St) (H S : Hp) (Q' : VK), Rep F ρ σ H S → ExOk X.mg E x H S →
    (∀ d v H' S', Q d → Grow H S H' S' → Dat S' d v → Q' v H') → tChain r r' ta tb tc σ H Q' := by
  obtain ⟨r, o, so⟩ := ho.ex
  obtain ⟨r', o', so'⟩ := ho'.ex
  obtain ⟨ta, pa, sa⟩ := ha.ex
  obtain ⟨tb, pb, sb⟩ := hb.ex
  obtain ⟨tc, pc, sc⟩ := hc.ex
  refine ⟨r, r', ta, tb, tc, o, o', pa, pb, pc, fun x ρ Q hw F σ H S Q' rp ex k => ?_⟩
  refine sa x ρ _ hw F σ H S _ rp ex fun d u H1 S1 q1 g1 h1 => ?_
  refine sb x ρ _ q1 F σ H1 S1 _ (rp.grow g1) (ex.grow g1) fun e v H2 S2 q2 g2 h2 => ?_
  refine so d e _ q2 H2 S2 u v _ g2.sh (h1.grow g2) h2 fun z y H3 S3 q3 g3 h3 => ?_
  obtain ⟨kb, rfl, q3⟩ := onBl_sound q3 h3
  refine ⟨kb, rfl, ?_⟩
  have g13 := (g1.trans g2).trans g3
  cases kb with
  | false => exact iteF (k _ _ H3 S3 q3 g13 (by unfold Dat; rfl))
  | true =>
    refine iteT (sc x ρ _ q3 F σ H3 S3 _ (rp.grow g13) (ex.grow g13) fun z y H4 S4 q4 g4 h4 => ?_)
    exact so' e z Q q4 H4 S4 v y Q' g4.sh ((h2.grow g3).grow g4) h4 fun z y H5 S5 q5 g5 h5 => k z y H5 S5 q5 ((g13.trans g4).trans g5) h5
theorem ed_chain {c : Expr} {wc : WE} {op op' : CmpOp} {g g' : D → D → (D → Prop) → Prop} (ho : OpD X (compareOp op) g) (ho' : OpD X (compareOp op') g') (ha : BD X E a wa) (hb : BD X E b wb) (hc : BD X E c wc)
    (hm : lastMarks [op, op'] [b, c] = false := by with_unfolding_all rfl) : ED X E (.Compare a [op, op'] [b, c] pos) (wChain g g' wa wb wc) := by
  obtain ⟨r, r', ta, tb, tc, o, o', pa, pb, pc, s⟩ := chain_sound ho ho' ha hb hc
  exact ⟨_, pe_chain o o' pa pb pc hm, s⟩
theorem td_chain {c : Expr} {wc : WE} {op op' : CmpOp} {g g' : D → D → (D → Prop) → Prop} (ho : OpD X (compareOp op) g) (ho' : OpD X (compareOp op') g') (ha : BD X E a wa) (hb : BD X E b wb) (hc : BD X E c wc)
    (hm : lastMarks [op, op'] [b, c] = false := by with_unfolding_all rfl) : TD X E (.Compare a [op, op'] [b, c] pos) (wtOn (wChain g g' wa wb wc)) := by
  obtain ⟨r, r', ta, tb, tc, o, o', pa, pb, pc, s⟩ := chain_sound ho ho' ha hb hc
  refine ⟨_, pt_chain o o' pa pb pc hm, fun x ρ Q hw F σ H S Q' rp ex k => ?_⟩
  refine s x ρ _ hw F σ H S _ rp ex fun d v H' S' q g hd => ?_
  obtain ⟨b, rfl, q⟩ := onBl_sound q hd
  exact ⟨b, rfl, k b H' S' q g⟩

/-! ### truth -/
def trD : D → (Bool → Prop) → Prop
  | .non, Q => Q false
  | .bl b, Q => Q b
  | .int i, Q => Q (i != 0)
  | .str s, Q => s.length ≤ sizeLine ∧ Q ((s.length : Int) != 0)
  | .lst xs, Q => Q (!xs.isEmpty)
  | .tup xs, Q => Q (!xs.isEmpty)
  | _, _ => False
theorem Dats.emp {S : Hp} {xs : List D} {vs : List V} (h : Dats S xs vs) : vs.isEmpty = xs.isEmpty := by
  have := h.len
  cases xs <;> cases vs <;> simp_all
theorem trD_sound {K : PySem.W.Frag} {H S : Hp} {d : D} {v : V} {Q : Bool → Prop} (sh : Same S H) (hb : BDat H S d v) (h : trD d Q) : ∃ k, TruV K v H k ∧ Q k := by
  cases d with
  | non => simp only [BDat, Dat] at hb; subst hb; exact ⟨_, rfl, h⟩
  | bl b => simp only [BDat, Dat] at hb; subst hb; exact ⟨_, rfl, h⟩
  | int i => simp only [BDat, Dat] at hb; subst hb; exact ⟨_, rfl, h⟩
  | str s => simp only [BDat, Dat] at hb; subst hb; exact ⟨_, ⟨h.1, rfl⟩, h.2⟩
  | lst xs =>
    obtain ⟨a, vs, rfl, r, q⟩ := hb
    exact ⟨_, .inl ⟨vs, .of r, rfl⟩, by rw [q.emp]; exact h⟩
  | tup xs =>
    simp only [BDat, Dat] at hb
    obtain ⟨a, vs, rfl, r, q⟩ := hb
    exact ⟨_, .inr (.inl ⟨vs, .of (sh _ _ r), rfl⟩), by rw [q.emp]; exact h⟩
  | dct _ _ => exact h.elim
  | obj _ _ _ => exact h.elim
  | dkz _ _ => exact h.elim
  | ref _ => exact h.elim
  | scr _ => exact h.elim
def wtVal (wa : WE) : WT := fun x ρ Q => wa x ρ fun d => trD d Q
theorem td_val (ha : BD X E a wa) (he : ∀ whole, isTrue a X.env whole = (do let v ← whole; standAt a.pos; holding [v] (truthy v)) := by intro _; rfl) : TD X E a (wtVal wa) := by
  obtain ⟨ta, pa, sa⟩ := ha.ex
  refine ⟨_, pt_truth pa he, fun x ρ Q hw F σ H S Q' rp ex k => ?_⟩
  refine sa x ρ _ hw F σ H S _ rp ex fun d u H1 S1 q1 g1 h1 => ?_
  obtain ⟨kb, e, q⟩ := trD_sound g1.sh h1 q1
  exact ⟨kb, e, k kb H1 S1 q g1⟩
variable {wt wu : WT} {rest : List Expr}
def wtNot (wt : WT) : WT := fun x ρ Q => wt x ρ fun b => Q (!b)
theorem td_not (ha : TD X E a wt) : TD X E (.UnaryOp .Not a pos) (wtNot wt) := by
  obtain ⟨t, p, s⟩ := ha.ex
  exact ⟨_, pt_not p, fun x ρ Q hw F σ H S Q' rp ex k => s x ρ _ hw F σ H S _ rp ex fun b H' S' q g => k _ H' S' q g⟩
def wAnd (wt wu : WT) : WT := fun x ρ Q => wt x ρ fun b => Br b (wu x ρ Q) (Q false) ⟨⟩ ⟨⟩
def wOr (wt wu : WT) : WT := fun x ρ Q => wt x ρ fun b => Br b (Q true) (wu x ρ Q) ⟨⟩ ⟨⟩
theorem wd_and1 (ha : TD X E a wt) : WD X E (.BoolOp .And [a] pos) wt := by
  obtain ⟨t, p, s⟩ := ha.ex
  exact ⟨_, pw_and1 p, s⟩
theorem wd_or1 (ha : TD X E a wt) : WD X E (.BoolOp .Or [a] pos) wt := by
  obtain ⟨t, p, s⟩ := ha.ex
  exact ⟨_, pw_or1 p, s⟩
theorem wd_and (ha : TD X E a wt) (hb : WD X E (.BoolOp .And (b :: rest) pos) wu) : WD X E (.BoolOp .And (a :: b :: rest) pos) (wAnd wt wu) := by
  obtain ⟨t, p, s⟩ := ha.ex
  obtain ⟨t', p', s'⟩ := hb.ex
  refine ⟨_, pw_and p p', fun x ρ Q hw F σ H S Q' rp ex k => ?_⟩
  refine s x ρ _ hw F σ H S _ rp ex fun b H1 S1 q1 g1 => ?_
  cases b with
  | true => exact iteT (s' x ρ _ q1 F σ H1 S1 _ (rp.grow g1) (ex.grow g1) fun b H2 S2 q2 g2 => k b H2 S2 q2 (g1.trans g2))
  | false => exact iteF (k _ H1 S1 q1 g1)
theorem wd_or (ha : TD X E a wt) (hb : WD X E (.BoolOp .Or (b :: rest) pos) wu) : WD X E (.BoolOp .Or (a :: b :: rest) pos) (wOr wt wu) := by
  obtain ⟨t, p, s⟩ := ha.ex
  obtain ⟨t', p', s'⟩ := hb.ex
  refine ⟨_, pw_or p p', fun x ρ Q hw F σ H S Q' rp ex k => ?_⟩
  refine s x ρ _ hw F σ H S _ rp ex fun b H1 S1 q1 g1 => ?_
  cases b with
  | true => exact iteT (k _ H1 S1 q1 g1)
  | false => exact iteF (s' x ρ _ q1 F σ H1 S1 _ (rp.grow g1) (ex.grow g1) fun b H2 S2 q2 g2 => k b H2 S2 q2 (g1.trans g2))
theorem td_w (h : WD X E e wt) : TD X E e wt := by
  obtain ⟨t, p, s⟩ := h.ex
  exact ⟨_, p.pt, s⟩
/-! .. as values -/
theorem ed_one {op} (h : ED X E a wa) : ED X E (.BoolOp op [a] pos) wa := by
  obtain ⟨t, p, s⟩ := h.ex
  exact ⟨_, pe_one p, s⟩
def wAndV (wa wb : WE) : WE := fun x ρ Q => wa x ρ fun d => trD d fun k => Br k (wb x ρ Q) (Q d) ⟨⟩ ⟨⟩
def wOrV (wa wb : WE) : WE := fun x ρ Q => wa x ρ fun d => trD d fun k => Br k (Q d) (wb x ρ Q) ⟨⟩ ⟨⟩
theorem ed_and (ha : ED X E a wa) (hb : ED X E (.BoolOp .And (b :: rest) pos) wb) : ED X E (.BoolOp .And (a :: b :: rest) pos) (wAndV wa wb) := by
  obtain ⟨t, p, s⟩ := ha.ex
  obtain ⟨t', p', s'⟩ := hb.ex
  refine ⟨_, pe_andT p p', fun x ρ Q hw F σ H S Q' rp ex k => ?_⟩
  refine s x ρ _ hw F σ H S _ rp ex fun d u H1 S1 q1 g1 h1 => ?_
  obtain ⟨kb, e, q⟩ := trD_sound (K := X.K) g1.sh (BDat.of g1.sh h1) q1
  refine ⟨kb, e, ?_⟩
  cases kb with
  | true => exact iteT (s' x ρ _ q F σ H1 S1 _ (rp.grow g1) (ex.grow g1) fun d v H2 S2 q2 g2 h2 => k d v H2 S2 q2 (g1.trans g2) h2)
  | false => exact iteF (k _ _ H1 S1 q g1 h1)
theorem ed_or (ha : ED X E a wa) (hb : ED X E (.BoolOp .Or (b :: rest) pos) wb) : ED X E (.BoolOp .Or (a :: b :: rest) pos) (wOrV wa wb) := by
  obtain ⟨t, p, s⟩ := ha.ex
  obtain ⟨t', p', s'⟩ := hb.ex
  refine ⟨_, pe_orT p p', fun x ρ Q hw F σ H S Q' rp ex k => ?_⟩
  refine s x ρ _ hw F σ H S _ rp ex fun d u H1 S1 q1 g1 h1 => ?_
  obtain ⟨kb, e, q⟩ := trD_sound (K := X.K) g1.sh (BDat.of g1.sh h1) q1
  refine ⟨kb, e, ?_⟩
  cases kb with
  | true => exact iteT (k _ _ H1 S1 q g1 h1)
  | false => exact iteF (s' x ρ _ q F σ H1 S1 _ (rp.grow g1) (ex.grow g1) fun d v H2 S2 q2 g2 h2 => k d v H2 S2 q2 (g1.trans g2) h2)
def wNotV (wa : WE) : WE := fun x ρ Q => wa x ρ fun d => trD d fun k => Q (.bl (!k))
theorem ed_not (ha : BD X E a wa) : ED X E (.UnaryOp .Not a pos) (wNotV wa) := by
  obtain ⟨t, p, s⟩ := ha.ex
  refine ⟨_, pe_notT p, fun x ρ Q hw F σ H S Q' rp ex k => ?_⟩
  refine s x ρ _ hw F σ H S _ rp ex fun d u H1 S1 q1 g1 h1 => ?_
  obtain ⟨kb, e, q⟩ := trD_sound (K := X.K) g1.sh h1 q1
  exact ⟨kb, e, k _ _ H1 S1 q g1 (by unfold Dat; rfl)⟩
def wIf (wt : WT) (wa wb : WE) : WE := fun x ρ Q => wt x ρ fun b => Br b (wa x ρ Q) (wb x ρ Q) ⟨⟩ ⟨⟩
theorem ed_ifexp {c : Expr} (hc : TD X E c wt) (ha : ED X E a wa) (hb : ED X E b wb) : ED X E (.IfExp c a b pos) (wIf wt wa wb) := by
  obtain ⟨t, p, s⟩ := hc.ex
  obtain ⟨ta, pa, sa⟩ := ha.ex
  obtain ⟨tb, pb, sb⟩ := hb.ex
  refine ⟨_, pe_ifExp p pa pb, fun x ρ Q hw F σ H S Q' rp ex k => ?_⟩
  refine s x ρ _ hw F σ H S _ rp ex fun b H1 S1 q1 g1 => ?_
  cases b with
  | true => exact iteT (sa x ρ _ q1 F σ H1 S1 _ (rp.grow g1) (ex.grow g1) fun d v H2 S2 q2 g2 h2 => k d v H2 S2 q2 (g1.trans g2) h2)
  | false => exact iteF (sb x ρ _ q1 F σ H1 S1 _ (rp.grow g1) (ex.grow g1) fun d v H2 S2 q2 g2 h2 => k d v H2 S2 q2 (g1.trans g2) h2)

/-! ### arguments, displays -/
def wNil : WL := fun _ _ Q => Q []
theorem ad_nil : AD X E [] wNil := ⟨_, pa_nil, fun x ρ Q hw F σ H S Q' rp ex k => k [] [] H S hw (.refl rp.sh) .nil⟩
def wCons (wa : WE) (wl : WL) : WL := fun x ρ Q => wa x ρ fun d => wl x ρ fun ds => Q (d :: ds)
theorem ad_cons (ha : ED X E a wa) (hr : AD X E es wl) (hs : starEach (a :: es) X.env = (false, eval a X.env) :: starEach es X.env := by rfl) : AD X E (a :: es) (wCons wa wl) := by
  obtain ⟨t, p, s⟩ := ha.ex
  obtain ⟨t', p', s'⟩ := hr.ex
  refine ⟨_, pa_cons p p' hs, fun x ρ Q hw F σ H S Q' rp ex k => ?_⟩
  refine s x ρ _ hw F σ H S _ rp ex fun d u H1 S1 q1 g1 h1 => ?_
  refine s' x ρ _ q1 F σ H1 S1 _ (rp.grow g1) (ex.grow g1) fun ds vs H2 S2 q2 g2 h2 => ?_
  exact k _ _ H2 S2 q2 (g1.trans g2) (.cons (Dat.mono g2.ss _ _ h1) h2)
theorem ab_nil : AB X E [] wNil := ⟨_, pa_nil, fun x ρ Q hw F σ H S Q' rp ex k => k [] [] H S hw (.refl rp.sh) rfl⟩
theorem ab_cons (ha : BD X E a wa) (hr : AB X E es wl) (hs : starEach (a :: es) X.env = (false, eval a X.env) :: starEach es X.env := by rfl) : AB X E (a :: es) (wCons wa wl) := by
  obtain ⟨t, p, s⟩ := ha.ex
  obtain ⟨t', p', s'⟩ := hr.ex
  refine ⟨_, pa_cons p p' hs, fun x ρ Q hw F σ H S Q' rp ex k => ?_⟩
  refine s x ρ _ hw F σ H S _ rp ex fun d u H1 S1 q1 g1 h1 => ?_
  refine s' x ρ _ q1 F σ H1 S1 _ (rp.grow g1) (ex.grow g1) fun ds vs H2 S2 q2 g2 h2 => ?_
  exact k _ _ H2 S2 q2 (g1.trans g2) ⟨_, _, rfl, h1.grow g2, h2⟩
def wTup (wl : WL) : WE := fun x ρ Q => wl x ρ fun ds => ds.length ≤ sizeLine ∧ Q (.tup ds)
def wLst (wl : WL) : WL := fun x ρ Q => wl x ρ fun ds => ds.length ≤ sizeLine ∧ Q ds
theorem ed_tup {k1} (h : AD X E es wl) : ED X E (.Tuple es k1 pos) (wTup wl) := by
  obtain ⟨t, p, s⟩ := h.ex
  refine ⟨_, pe_tup p, fun x ρ Q hw F σ H S Q' rp ex k => ?_⟩
  refine s x ρ _ hw F σ H S _ rp ex fun ds vs H1 S1 q1 g1 h1 => ⟨by rw [h1.len]; exact q1.1, fun p hp => ?_⟩
  have h0 := g1.freeS hp
  refine k _ _ _ (upd S1 p (.tup vs)) q1.2 ((g1.lay hp).share (g1.freeH hp) h0 upd_same) ?_
  unfold Dat
  exact ⟨p, vs, rfl, upd_same, Dats.mono (same_upd h0) _ _ h1⟩
theorem df_lst (h : AD X E es wl) : DF X E (.List es pos) (wLst wl) := by
  obtain ⟨t, p, s⟩ := h.ex
  refine ⟨_, pe_lst p, fun x ρ Q hw F σ H S Q' rp ex k => ?_⟩
  refine s x ρ _ hw F σ H S _ rp ex fun ds vs H1 S1 q1 g1 h1 => ⟨by rw [h1.len]; exact q1.1, fun p hp => ?_⟩
  exact k _ _ _ _ S1 q1.2 (g1.lay hp) (g1.freeH hp) (g1.freeS hp) upd_same h1
def wUn (f : Int → Int) (wa : WE) : WE := fun x ρ Q => wa x ρ fun d => match d with
  | .int i => Q (.int (f i))
  | _ => False
theorem ed_un {op : UnaryOp} {f : Int → Int} (ho : UnR X (unaryOp op) (rU fun i => .int (f i))) (ha : ED X E a wa) : ED X E (.UnaryOp op a pos) (wUn f wa) := by
  obtain ⟨t, p, s⟩ := ha.ex
  refine ⟨_, pe_un ho p, fun x ρ Q hw F σ H S Q' rp ex k => ?_⟩
  refine s x ρ _ hw F σ H S _ rp ex fun d u H1 S1 q1 g1 h1 => ?_
  cases d with
  | int i =>
    unfold Dat at h1
    exact ⟨i, h1, k _ _ H1 S1 q1 g1 (by unfold Dat; rfl)⟩
  | _ => exact q1.elim
end
end NL

namespace NL
open PySem PySem.Spec L2
open PyProof.Rows hiding St
variable [KC]

/-! ### the operators by data -/
theorem Dat.i {S : Hp} {i : Int} : Dat S (.int i) (.int i) := by unfold Dat; rfl
theorem Dat.s {S : Hp} {i : Str} : Dat S (.str i) (.str i) := by unfold Dat; rfl
theorem Dat.b {S : Hp} {i : Bool} : Dat S (.bl i) (.bl i) := by unfold Dat; rfl
theorem Dat.n {S : Hp} : Dat S .non .non := by unfold Dat; rfl
theorem BDat.i {H S : Hp} {i : Int} {v : V} (h : BDat H S (.int i) v) : v = .int i := by unfold BDat Dat at h; exact h
theorem BDat.s {H S : Hp} {i : Str} {v : V} (h : BDat H S (.str i) v) : v = .str i := by unfold BDat Dat at h; exact h
theorem BDat.b {H S : Hp} {i : Bool} {v : V} (h : BDat H S (.bl i) v) : v = .bl i := by unfold BDat Dat at h; exact h
theorem BDat.n {H S : Hp} {v : V} (h : BDat H S .non v) : v = .non := by unfold BDat Dat at h; exact h
theorem Dat.lstOf {S : Hp} {xs : List D} {vs : List V} {p : Addr} (h : S p = some (.lst vs)) (q : Dats S xs vs) : Dat S (.lst xs) (.ref p) := by
  unfold Dat
  exact ⟨p, vs, rfl, h, q⟩
/-- a list just laid, shared -/
theorem lay_lst {H S : Hp} {xs : List D} {vs : List V} {p : Addr} (sh : Same S H) (hp : H p = none) (q : Dats S xs vs) :
    Grow H S (upd H p (.lst vs)) (upd S p (.lst vs)) ∧ Dat (upd S p (.lst vs)) (.lst xs) (.ref p) := by
  have h0 := sh.free hp
  exact ⟨((Grow.refl sh).lay hp).share hp h0 upd_same, .lstOf upd_same (Dats.mono (same_upd h0) _ _ q)⟩

section
variable {X : Cx}
def gAdd : D → D → (D → Prop) → Prop
  | .int i, .int j, Q => Q (.int (i + j))
  | .str s, .str t, Q => s.length + t.length ≤ sizeLine ∧ Q (.str (s ++ t))
  | .lst xs, .lst ys, Q => xs.length + ys.length ≤ sizeLine ∧ Q (.lst (xs ++ ys))
  | _, _, _ => False
theorem dAdd : OpD X (binaryOp .Add) gAdd := by
  refine ⟨_, op_add.or (op_add_str.or op_cat), fun d e Q h H S u v Q' sh hd he k => ?_⟩
  unfold gAdd at h
  split at h
  · exact .inl ⟨_, _, hd.i, he.i, k _ _ H S h (.refl sh) .i⟩
  · exact .inr (.inl ⟨_, _, hd.s, he.s, h.1, k _ _ H S h.2 (.refl sh) .s⟩)
  · obtain ⟨a, vs, rfl, ra, qa⟩ := hd
    obtain ⟨b, ws, rfl, rb, qb⟩ := he
    refine .inr (.inr ⟨a, b, vs, ws, rfl, rfl, ra, rb, by rw [qa.len, qb.len]; exact h.1, fun p hp => ?_⟩)
    obtain ⟨g, z⟩ := lay_lst sh hp (qa.app qb)
    exact k _ _ _ _ h.2 g z
  · exact h.elim
def gInt (C : Int → Int → Prop) (f : Int → Int → Int) : D → D → (D → Prop) → Prop
  | .int i, .int j, Q => C i j ∧ Q (.int (f i j))
  | _, _, _ => False
def gInt0 (f : Int → Int → Int) : D → D → (D → Prop) → Prop
  | .int i, .int j, Q => Q (.int (f i j))
  | _, _, _ => False
theorem dInt {f : Value → Value → Sem Value} {C : Int → Int → Prop} {g : Int → Int → Int} (ho : OpR X f (rI C fun i j => .int (g i j))) : OpD X f (gInt C g) := by
  refine ⟨_, ho, fun d e Q h H S u v Q' sh hd he k => ?_⟩
  unfold gInt at h
  split at h
  · exact ⟨_, _, hd.i, he.i, h.1, k _ _ H S h.2 (.refl sh) .i⟩
  · exact h.elim
theorem dInt0 {f : Value → Value → Sem Value} {g : Int → Int → Int} (ho : OpR X f (rI0 fun i j => .int (g i j))) : OpD X f (gInt0 g) := by
  refine ⟨_, ho, fun d e Q h H S u v Q' sh hd he k => ?_⟩
  unfold gInt0 at h
  split at h
  · exact ⟨_, _, hd.i, he.i, k _ _ H S h (.refl sh) .i⟩
  · exact h.elim
theorem dSub : OpD X (binaryOp .Sub) (gInt0 fun i j => i - j) := dInt0 op_sub
theorem dDiv : OpD X (binaryOp .FloorDiv) (gInt CDivW fun i j => i / j) := dInt op_fdivW
theorem dMod : OpD X (binaryOp .Mod) (gInt (fun _ j => 0 < j) fun i j => i % j) := dInt op_mod
theorem dPow : OpD X (binaryOp .Pow) (gInt CPow fun i j => i ^ j.toNat) := dInt op_pow
theorem dShl : OpD X (binaryOp .LShift) (gInt CPow fun i j => i * 2 ^ j.toNat) := dInt op_shl
theorem dShr : OpD X (binaryOp .RShift) (gInt (fun _ j => 0 ≤ j) fun i j => i / 2 ^ j.toNat) := dInt op_shr
theorem dAnd : OpD X (binaryOp .BitAnd) (gInt0 fun i j => Builtin.bitAnd i j) := dInt0 op_and
def srep (n : Nat) (s : Str) : Str := ⟨((List.replicate n s.cps.toList).flatten).toArray⟩
theorem fold_app (n : Nat) (a b : Array Nat) : ((List.replicate n a).foldl (· ++ ·) b).toList = b.toList ++ (List.replicate n a.toList).flatten := by
  induction n generalizing b with
  | zero => simp
  | succ n ih =>
    simp only [List.replicate_succ, List.foldl_cons, List.flatten_cons]
    rw [ih, Array.toList_append, List.append_assoc]
theorem op_repS : OpR X (binaryOp .Mult) (fun x y H Q => ∃ i k, x = .str i ∧ y = .int k ∧ (-(2 ^ 63) ≤ k ∧ k < 2 ^ 63 ∧ i.length * k.toNat ≤ sizeLine) ∧ Q (.str (srep k.toNat i)) H) := by
  intro pins s σ H x y v u Q I rx ry h
  obtain ⟨i, k, rfl, rfl, ⟨k1, k2, k3⟩, q⟩ := h
  obtain ⟨t, rfl⟩ := rx
  obtain ⟨t', rfl⟩ := ry
  have fin : ∀ tk : Tok, ∀ z, z = srep k.toNat i → EP X pins σ Q (.str z tk) { s with toks := s.toks + 1 } := fun tk z hz => by
    subst hz
    exact ⟨.str _, H, I.tok _, ⟨_, rfl⟩, q⟩
  refine P.mul_str (by rw [decide_eq_false (by omega), decide_eq_false (by omega)]; rfl) (fun h1 h2 => ?_) (fun h1 h2 => ?_) ?_
  · have hk : k = (k.toNat : Int) := by omega
    have hs : (sizeLine : Int) = 16777216 := by rfl
    have h3 : (i.length : Int) * k ≤ 16777216 := by
      rw [hk]
      rw [← hs]
      exact_mod_cast k3
    have h4 : (i.length : Int) ≤ (2 ^ 63 - 1) / k := by
      rw [Int.le_ediv_iff_mul_le (by omega)]
      omega
    omega
  · unfold Builtin.Str.tooLong
    exact decide_eq_false (by omega)
  · have lz : (srep k.toNat i).length ≤ sizeLine := by
      have : (srep k.toNat i).length = i.length * k.toNat := by
        show (List.flatten _).toArray.size = _
        rw [List.size_toArray, List.length_flatten, List.map_replicate, List.sum_replicate_nat, Nat.mul_comm]
        rfl
      rw [this]
      exact k3
    split
    · rename_i h1
      refine ⟨by show (#[] : Array Nat).size ≤ _; simp, fin _ _ ?_⟩
      have : k.toNat = 0 := by omega
      rw [this]
      rfl
    · rename_i h1
      split
      · rename_i h2
        have e : i = srep k.toNat i := by
          rcases Bool.or_eq_true _ _ ▸ h2 with h2 | h2
          · have : k.toNat = 1 := by
              have : k = 1 := by simpa using h2
              omega
            rw [this]
            show i = ⟨(List.flatten [i.cps.toList]).toArray⟩
            simp
          · have : i.cps = #[] := by
              have : i.cps.size = 0 := (beq_iff_eq.mp h2 : i.length = 0)
              exact Array.eq_empty_of_size_eq_zero this
            have e2 : i = ⟨#[]⟩ := by
              cases i
              simp at this
              rw [this]
            rw [e2]
            unfold srep
            simp
        exact ⟨.str i, H, I, ⟨_, rfl⟩, by rw [e]; exact q⟩
      · have e : (⟨List.foldl (fun x1 x2 => x1 ++ x2) #[] (List.replicate k.toNat i.cps)⟩ : Str) = srep k.toNat i := by
          unfold srep
          congr 1
          apply Array.toList_inj.mp
          have := fold_app k.toNat i.cps #[]
          simpa using this
        exact ⟨by rw [e]; exact lz, fin _ _ e⟩
def gMul : D → D → (D → Prop) → Prop
  | .int i, .int j, Q => CMulW i j ∧ Q (.int (i * j))
  | .str s, .int k, Q => (-(2 ^ 63) ≤ k ∧ k < 2 ^ 63 ∧ s.length * k.toNat ≤ sizeLine) ∧ Q (.str (srep k.toNat s))
  | .lst xs, .int k, Q => (-(2 ^ 63) ≤ k ∧ k < 2 ^ 63 ∧ xs.length * k.toNat ≤ sizeLine) ∧ Q (.lst (List.replicate k.toNat xs).flatten)
  | _, _, _ => False
theorem dMul : OpD X (binaryOp .Mult) gMul := by
  refine ⟨_, op_mulW.or (op_repS.or op_rep), fun d e Q h H S u v Q' sh hd he k => ?_⟩
  unfold gMul at h
  split at h
  · exact .inl ⟨_, _, hd.i, he.i, h.1, k _ _ H S h.2 (.refl sh) .i⟩
  · exact .inr (.inl ⟨_, _, hd.s, he.i, h.1, k _ _ H S h.2 (.refl sh) .s⟩)
  · obtain ⟨a, vs, rfl, ra, qa⟩ := hd
    refine .inr (.inr ⟨a, _, vs, rfl, he.i, ra, h.1.1, h.1.2.1, by rw [qa.len]; exact h.1.2.2, fun p hp => ?_⟩)
    obtain ⟨g, z⟩ := lay_lst sh hp (qa.rep _)
    exact k _ _ _ _ h.2 g z
  · exact h.elim

/-! ### new lists by operators -/
structure FopD (X : Cx) (f : Value → Value → Sem Value) (g : D → D → (List D → Prop) → Prop) : Prop where
  ex : ∃ r : R2, OpR X f r ∧ ∀ (d e : D) (Q : List D → Prop), g d e Q → ∀ (H S : Hp) (u v : V) (Q' : VK), Same S H → BDat H S d u → BDat H S e v →
    (∀ z vs p, Q z → H p = none → Dats S z vs → Q' (.ref p) (upd H p (.lst vs))) → r u v H Q'
def gCatF : D → D → (List D → Prop) → Prop
  | .lst xs, .lst ys, Q => xs.length + ys.length ≤ sizeLine ∧ Q (xs ++ ys)
  | _, _, _ => False
theorem fCat : FopD X (binaryOp .Add) gCatF := by
  refine ⟨_, op_cat, fun d e Q h H S u v Q' sh hd he k => ?_⟩
  unfold gCatF at h
  split at h
  · obtain ⟨a, vs, rfl, ra, qa⟩ := hd
    obtain ⟨b, ws, rfl, rb, qb⟩ := he
    exact ⟨a, b, vs, ws, rfl, rfl, ra, rb, by rw [qa.len, qb.len]; exact h.1, fun p hp => k _ _ _ h.2 hp (qa.app qb)⟩
  · exact h.elim
def gRepF : D → D → (List D → Prop) → Prop
  | .lst xs, .int k, Q => (-(2 ^ 63) ≤ k ∧ k < 2 ^ 63 ∧ xs.length * k.toNat ≤ sizeLine) ∧ Q (List.replicate k.toNat xs).flatten
  | _, _, _ => False
theorem fRep : FopD X (binaryOp .Mult) gRepF := by
  refine ⟨_, op_rep, fun d e Q h H S u v Q' sh hd he k => ?_⟩
  unfold gRepF at h
  split at h
  · obtain ⟨a, vs, rfl, ra, qa⟩ := hd
    exact ⟨a, _, vs, rfl, he.i, ra, h.1.1, h.1.2.1, by rw [qa.len]; exact h.1.2.2, fun p hp => k _ _ _ h.2 hp (qa.rep _)⟩
  · exact h.elim
variable {E : XK} {e a b : Expr} {es : List Expr} {pos : Pos} {w wa wb : WE} {wl : WL}
def wOpF (g : D → D → (List D → Prop) → Prop) (wa wb : WE) : WL := fun x ρ Q => wa x ρ fun d => wb x ρ fun e => g d e Q
theorem df_op {op : Operator} {g : D → D → (List D → Prop) → Prop} (ho : FopD X (binaryOp op) g) (ha : BD X E a wa) (hb : BD X E b wb) : DF X E (.BinOp a op b pos) (wOpF g wa wb) := by
  obtain ⟨r, o, so⟩ := ho.ex
  obtain ⟨ta, pa, sa⟩ := ha.ex
  obtain ⟨tb, pb, sb⟩ := hb.ex
  refine ⟨_, pe_op o pa pb, fun x ρ Q hw F σ H S Q' rp ex k => ?_⟩
  refine sa x ρ _ hw F σ H S _ rp ex fun d u H1 S1 q1 g1 h1 => ?_
  refine sb x ρ _ q1 F σ H1 S1 _ (rp.grow g1) (ex.grow g1) fun e v H2 S2 q2 g2 h2 => ?_
  have g12 := g1.trans g2
  refine so d e Q q2 H2 S2 u v Q' g2.sh (h1.grow g2) h2 fun z vs p q3 hp h3 => ?_
  exact k z p vs _ S2 q3 (g12.lay hp) (g12.freeH hp) (g12.freeS hp) upd_same h3

/-! ### comparisons by data -/
/-- data that == tells apart as equality does, at most so deep -/
def nb : Nat → D → Bool
  | 0, _ => false
  | _ + 1, .non => true
  | _ + 1, .int _ => true
  | _ + 1, .str s => PyData.strOk s
  | n + 1, .lst xs => xs.all (nb n)
  | n + 1, .tup xs => xs.all (nb n)
  | _ + 1, _ => false
def toPy : Nat → D → PyData
  | 0, _ => .none
  | _ + 1, .non => .none
  | _ + 1, .int i => .int i
  | _ + 1, .str s => .str s
  | n + 1, .lst xs => .list (xs.map (toPy n))
  | n + 1, .tup xs => .tuple (xs.map (toPy n))
  | _ + 1, _ => .none
theorem nb_dp {H : Hp} {K : PySem.W.Frag} : ∀ (n : Nat) (d : D) (v : V), nb n d = true → Dat H d v → Dp K H v (toPy n d)
  | 0, _, _, h, _ => by simp [nb] at h
  | n + 1, .non, v, _, q => by unfold Dat at q; subst q; exact .non
  | n + 1, .int i, v, _, q => by unfold Dat at q; subst q; exact .int i
  | n + 1, .str i, v, _, q => by unfold Dat at q; subst q; exact .str i
  | n + 1, .bl _, v, h, _ => by simp [nb] at h
  | n + 1, .dct _ _, v, h, _ => by simp [nb] at h
  | n + 1, .obj _ _ _, v, h, _ => by simp [nb] at h
  | n + 1, .dkz _ _, v, h, _ => by simp [nb] at h
  | n + 1, .ref _, v, h, _ => by simp [nb] at h
  | n + 1, .scr _, v, h, _ => by simp [nb] at h
  | n + 1, .lst xs, v, h, q => by
    unfold Dat at q
    obtain ⟨a, vs, rfl, r, q⟩ := q
    have h' : ∀ x ∈ xs, nb n x = true := by simpa [nb] using h
    refine .lst (.of r) ?_
    clear r h
    induction xs generalizing vs with
    | nil => unfold Dats at q; subst q; exact .nil
    | cons x xs ih =>
      unfold Dats at q
      obtain ⟨v, r, rfl, q1, q2⟩ := q
      exact .cons (nb_dp n x v (h' x (by simp)) q1) (ih r q2 fun y hy => h' y (by simp [hy]))
  | n + 1, .tup xs, v, h, q => by
    unfold Dat at q
    obtain ⟨a, vs, rfl, r, q⟩ := q
    have h' : ∀ x ∈ xs, nb n x = true := by simpa [nb] using h
    refine .tup (.of r) ?_
    clear r h
    induction xs generalizing vs with
    | nil => unfold Dats at q; subst q; exact .nil
    | cons x xs ih =>
      unfold Dats at q
      obtain ⟨v, r, rfl, q1, q2⟩ := q
      exact .cons (nb_dp n x v (h' x (by simp)) q1) (ih r q2 fun y hy => h' y (by simp [hy]))
omit [KC] in
theorem nb_shape : ∀ (n : Nat) (d : D), nb n d = true → (toPy n d).canLay0 = true ∧ (toPy n d).depth ≤ n
  | 0, _, h => by simp [nb] at h
  | n + 1, .non, _ => by simp [toPy, PyData.canLay0, PyData.depth]
  | n + 1, .int i, _ => by simp [toPy, PyData.canLay0, PyData.depth]
  | n + 1, .str i, h => by simpa [toPy, PyData.canLay0, PyData.depth, nb] using h
  | n + 1, .bl _, h => by simp [nb] at h
  | n + 1, .dct _ _, h => by simp [nb] at h
  | n + 1, .obj _ _ _, h => by simp [nb] at h
  | n + 1, .dkz _ _, h => by simp [nb] at h
  | n + 1, .ref _, h => by simp [nb] at h
  | n + 1, .scr _, h => by simp [nb] at h
  | n + 1, .lst xs, h => by
    have h' : ∀ x ∈ xs, nb n x = true := by simpa [nb] using h
    have key : PyData.canLayAll0 (xs.map (toPy n)) = true ∧ PyData.depthAll (xs.map (toPy n)) ≤ n := by
      clear h
      induction xs with
      | nil => simp [PyData.canLayAll0, PyData.depthAll]
      | cons x xs ih =>
        obtain ⟨i1, i2⟩ := ih fun y hy => h' y (by simp [hy])
        obtain ⟨j1, j2⟩ := nb_shape n x (h' x (by simp))
        simp only [List.map_cons, PyData.canLayAll0, PyData.depthAll, i1, j1, Bool.and_self, true_and]
        omega
    simp only [toPy, PyData.canLay0, PyData.depth, key.1, true_and]
    omega
  | n + 1, .tup xs, h => by
    have h' : ∀ x ∈ xs, nb n x = true := by simpa [nb] using h
    have key : PyData.canLayAll0 (xs.map (toPy n)) = true ∧ PyData.depthAll (xs.map (toPy n)) ≤ n := by
      clear h
      induction xs with
      | nil => simp [PyData.canLayAll0, PyData.depthAll]
      | cons x xs ih =>
        obtain ⟨i1, i2⟩ := ih fun y hy => h' y (by simp [hy])
        obtain ⟨j1, j2⟩ := nb_shape n x (h' x (by simp))
        simp only [List.map_cons, PyData.canLayAll0, PyData.depthAll, i1, j1, Bool.and_self, true_and]
        omega
    simp only [toPy, PyData.canLay0, PyData.depth, key.1, true_and]
    omega
omit [KC] in
theorem eqvAll_iff {n : Nat} (ih : ∀ d e : D, nb n d = true → nb n e = true → (PyData.eqv (toPy n d) (toPy n e) = true ↔ d = e)) : ∀ (xs ys : List D), (∀ x ∈ xs, nb n x = true) → (∀ y ∈ ys, nb n y = true) →
    (PyData.eqvAll (xs.map (toPy n)) (ys.map (toPy n)) = true ↔ xs = ys)
  | [], [], _, _ => by simp [PyData.eqvAll]
  | [], _ :: _, _, _ => by simp [PyData.eqvAll]
  | _ :: _, [], _, _ => by simp [PyData.eqvAll]
  | x :: xs, y :: ys, hx, hy => by
    simp only [List.map_cons, PyData.eqvAll, Bool.and_eq_true, List.cons.injEq]
    rw [ih x y (hx x (by simp)) (hy y (by simp)), eqvAll_iff ih xs ys (fun z hz => hx z (by simp [hz])) fun z hz => hy z (by simp [hz])]
omit [KC] in
theorem eqv_iff : ∀ (n : Nat) (d e : D), nb n d = true → nb n e = true → (PyData.eqv (toPy n d) (toPy n e) = true ↔ d = e)
  | 0, _, _, h, _ => by simp [nb] at h
  | n + 1, d, e, h, g => by
    have ih := eqv_iff n
    cases d <;> cases e <;> simp_all [nb, toPy, PyData.eqv]
    · rename_i xs ys
      exact eqvAll_iff ih xs ys h g
    · rename_i xs ys
      exact eqvAll_iff ih xs ys h g
omit [KC] in
theorem nb_shaped {d : D} (h : nb 20 d = true) : SeqAt.shaped (toPy 20 d) = true := by
  obtain ⟨h1, h2⟩ := nb_shape 20 d h
  unfold SeqAt.shaped
  rw [h1, decide_eq_true (by omega)]
  rfl
open Classical in
noncomputable def deq (d e : D) : Bool := decide (d = e)
def gEq (neg : Bool) : D → D → (D → Prop) → Prop
  | .bl i, .bl j, Q => Q (.bl (neg ^^ (i == j)))
  | .int i, .int j, Q => Q (.bl (neg ^^ decide (i = j)))
  | .str i, .str j, Q => Q (.bl (neg ^^ decide (i = j)))
  | d, e, Q => (nb 20 d = true ∧ nb 20 e = true) ∧ Q (.bl (neg ^^ deq d e))
omit [KC] in
theorem eqv_deq {d e : D} (h : nb 20 d = true) (g : nb 20 e = true) : PyData.eqv (toPy 20 d) (toPy 20 e) = deq d e := by
  rw [Bool.eq_iff_iff, eqv_iff 20 d e h g]
  simp [deq]
omit [KC] in
theorem dec_bl' {i j : Bool} : decide (V.bl i = V.bl j) = (i == j) := by
  rw [Bool.eq_iff_iff]
  simp
theorem dEq {k : Nat} (hr : Room k X.A) : OpD X (compareOp .Eq) (gEq false) := by
  refine ⟨_, op_eq.or (op_eqD hr.units), fun d e Q h H S u v Q' sh hd he k => ?_⟩
  unfold gEq at h
  split at h
  · cases hd.b
    cases he.b
    exact .inl ⟨rfl, by rw [dec_bl']; simpa using k _ _ H S h (.refl sh) .b⟩
  · cases hd.i
    cases he.i
    exact .inl ⟨rfl, by simpa using k _ _ H S h (.refl sh) .b⟩
  · cases hd.s
    cases he.s
    exact .inl ⟨rfl, by simpa using k _ _ H S h (.refl sh) .b⟩
  · obtain ⟨⟨n1, n2⟩, h⟩ := h
    refine .inr ⟨_, _, nb_dp 20 _ u n1 (hd.full sh), nb_dp 20 _ v n2 (he.full sh), nb_shaped n1, nb_shaped n2, ?_⟩
    rw [eqv_deq n1 n2]
    simpa using k _ _ H S h (.refl sh) .b
theorem dNe {k : Nat} (hr : Room k X.A) : OpD X (compareOp .NotEq) (gEq true) := by
  refine ⟨_, op_ne.or (op_neD hr.units), fun d e Q h H S u v Q' sh hd he k => ?_⟩
  unfold gEq at h
  split at h
  · cases hd.b
    cases he.b
    exact .inl ⟨rfl, by rw [dec_bl']; simpa using k _ _ H S h (.refl sh) .b⟩
  · cases hd.i
    cases he.i
    exact .inl ⟨rfl, by simpa using k _ _ H S h (.refl sh) .b⟩
  · cases hd.s
    cases he.s
    exact .inl ⟨rfl, by simpa using k _ _ H S h (.refl sh) .b⟩
  · obtain ⟨⟨n1, n2⟩, h⟩ := h
    refine .inr ⟨_, _, nb_dp 20 _ u n1 (hd.full sh), nb_dp 20 _ v n2 (he.full sh), nb_shaped n1, nb_shaped n2, ?_⟩
    rw [eqv_deq n1 n2]
    simpa using k _ _ H S h (.refl sh) .b
def gCmp (p : Int → Int → Bool) : D → D → (D → Prop) → Prop
  | .int i, .int j, Q => Q (.bl (p i j))
  | _, _, _ => False
theorem dCmp {f : Value → Value → Sem Value} {g : Int → Int → Bool} (ho : OpR X f (rI0 fun i j => .bl (g i j))) : OpD X f (gCmp g) := by
  refine ⟨_, ho, fun d e Q h H S u v Q' sh hd he k => ?_⟩
  unfold gCmp at h
  split at h
  · exact ⟨_, _, hd.i, he.i, k _ _ H S h (.refl sh) .b⟩
  · exact h.elim
theorem dLt : OpD X (compareOp .Lt) (gCmp fun i j => decide (i < j)) := dCmp op_lt
theorem dLe : OpD X (compareOp .LtE) (gCmp fun i j => decide (i ≤ j)) := dCmp op_le
theorem dGt : OpD X (compareOp .Gt) (gCmp fun i j => decide (j < i)) := dCmp op_gt
theorem dGe : OpD X (compareOp .GtE) (gCmp fun i j => decide (j ≤ i)) := dCmp op_ge
/-- one sign in a text -/
def gInS (neg : Bool) : D → D → (D → Prop) → Prop
  | .str s, .str t, Q => match s.cps.toList with
    | [c] => Q (.bl (neg ^^ decide (c ∈ t.cps.toList)))
    | _ => False
  | _, _, _ => False
omit [KC] in
theorem str_one {s : Str} {c : Nat} (h : s.cps.toList = [c]) : s = ⟨#[c]⟩ := by
  cases s with
  | mk cps =>
    congr 1
    exact Array.ext' (by simpa using h)
theorem dInS : OpD X (compareOp .In) (gInS false) := by
  refine ⟨_, op_in_sign, fun d e Q h H S u v Q' sh hd he k => ?_⟩
  unfold gInS at h
  split at h
  · split at h
    · rename_i c hc
      cases hd.s
      cases he.s
      exact ⟨c, _, by rw [str_one hc], rfl, by simpa using k _ _ H S h (.refl sh) .b⟩
    · exact h.elim
  · exact h.elim
theorem dNotInS : OpD X (compareOp .NotIn) (gInS true) := by
  refine ⟨_, op_notIn_sign, fun d e Q h H S u v Q' sh hd he k => ?_⟩
  unfold gInS at h
  split at h
  · split at h
    · rename_i c hc
      cases hd.s
      cases he.s
      exact ⟨c, _, by rw [str_one hc], rfl, by simpa using k _ _ H S h (.refl sh) .b⟩
    · exact h.elim
  · exact h.elim
/-- is None -/
def isN : D → Bool
  | .non => true
  | _ => false
theorem isN_sound {H S : Hp} {d : D} {v : V} (h : BDat H S d v) : decide (v = V.non) = isN d := by
  cases d <;> simp only [BDat, Dat] at h
  · subst h; simp [isN]
  · subst h; simp [isN]
  · subst h; simp [isN]
  · subst h; simp [isN]
  · obtain ⟨a, _, rfl, _⟩ := h; simp [isN]
  · obtain ⟨a, _, rfl, _⟩ := h; simp [isN]
  · obtain ⟨a, _, rfl, _⟩ := h; simp [isN]
  · subst h; simp [isN]
  · obtain ⟨a, rfl, _⟩ := h; simp [isN]
  · obtain ⟨a, _, _, rfl, _⟩ := h; simp [isN]
  · obtain ⟨a, _, _, rfl, _⟩ := h; simp [isN]
def gIsN (neg : Bool) : D → D → (D → Prop) → Prop := fun d e Q => isN e = true ∧ Q (.bl (neg ^^ isN d))
theorem isN_v {H S : Hp} {d : D} {v : V} (h : BDat H S d v) (n : isN d = true) : v = .non := by
  have := isN_sound h
  rw [n] at this
  simpa using this
theorem dIsN : OpD X (compareOp .Is) (gIsN false) := by
  refine ⟨_, op_isN, fun d e Q h H S u v Q' sh hd he k => ?_⟩
  refine ⟨isN_v he h.1, ?_⟩
  rw [isN_sound hd]
  simpa using k _ _ H S h.2 (.refl sh) .b
theorem dIsNotN : OpD X (compareOp .IsNot) (gIsN true) := by
  refine ⟨_, op_notN, fun d e Q h H S u v Q' sh hd he k => ?_⟩
  refine ⟨isN_v he h.1, ?_⟩
  rw [isN_sound hd]
  simpa using k _ _ H S h.2 (.refl sh) .b
def gIsB : D → D → (D → Prop) → Prop
  | .bl i, .bl j, Q => Q (.bl (decide (i = j)))
  | _, _, _ => False
theorem dIsB : OpD X (compareOp .Is) gIsB := by
  refine ⟨_, op_isBl, fun d e Q h H S u v Q' sh hd he k => ?_⟩
  unfold gIsB at h
  split at h
  · exact ⟨_, _, hd.b, he.b, k _ _ H S h (.refl sh) .b⟩
  · exact h.elim

/-! ### subscripts -/
def gIdx : D → D → (D → Prop) → Prop
  | .lst xs, .int i, Q => ∃ d, atI xs i = some d ∧ Q d
  | .tup xs, .int i, Q => ∃ d, atI xs i = some d ∧ Q d
  | .scr ns, .int i, Q => ∃ n, atI ns i = some n ∧ Q (.int n)
  | .str z, .int i, Q => z.length ≤ sizeLine ∧ ∃ c, atI z.cps.toList i = some c ∧ Q (.str ⟨#[c]⟩)
  | _, _, _ => False
theorem atI_dats {S : Hp} {xs : List D} {vs : List V} {i : Int} {d : D} (q : Dats S xs vs) (h : atI xs i = some d) : ∃ v, atI vs i = some v ∧ Dat S d v := by
  unfold atI at h ⊢
  rw [q.len]
  cases e : ixN xs.length i with
  | none => rw [e] at h; cases h
  | some j =>
    rw [e] at h
    exact q.get h
omit [KC] in
theorem ex_atI_map {α β : Type} {f : α → β} {xs : List α} {i : Int} {Q : β → Prop} : (∃ d, atI (xs.map f) i = some d ∧ Q d) ↔ ∃ a, atI xs i = some a ∧ Q (f a) := by
  rw [show atI (xs.map f) i = (atI xs i).map f from by
    unfold atI
    rw [List.length_map]
    cases ixN xs.length i with
    | none => rfl
    | some j => simp]
  constructor
  · rintro ⟨d, h, q⟩
    cases e : atI xs i with
    | none => rw [e] at h; cases h
    | some a =>
      rw [e] at h
      cases h
      exact ⟨a, rfl, q⟩
  · rintro ⟨a, h, q⟩
    exact ⟨f a, by rw [h]; rfl, q⟩
omit [KC] in
theorem atI0 {α : Type} {x : α} {r : List α} : atI (x :: r) 0 = some x := atI_nat (j := 0) rfl
omit [KC] in
theorem atI1 {α : Type} {x y : α} {r : List α} : atI (x :: y :: r) 1 = some y := atI_nat (j := 1) rfl
omit [KC] in
theorem atI2 {α : Type} {x y z : α} {r : List α} : atI (x :: y :: z :: r) 2 = some z := atI_nat (j := 2) rfl
omit [KC] in
theorem atI_map {α β : Type} {f : α → β} {xs : List α} {i : Int} : atI (xs.map f) i = (atI xs i).map f := by
  unfold atI
  rw [List.length_map]
  cases ixN xs.length i with
  | none => rfl
  | some j => simp
theorem ed_ix (ha : BD X E a wa) (hb : BD X E b wb) (hs : PlainIx b := by exact fun _ _ => rfl) (hK : X.K = KC.K := by rfl) : ED X E (.Subscript a b pos) (wOp gIdx wa wb) := by
  obtain ⟨ta, pa, sa⟩ := ha.ex
  obtain ⟨tb, pb, sb⟩ := hb.ex
  refine ⟨_, pe_ix ix_seq pa pb hs, fun x ρ Q hw F σ H S Q' rp ex k => ?_⟩
  refine sa x ρ _ hw F σ H S _ rp ex fun d u H1 S1 q1 g1 h1 => ?_
  refine sb x ρ _ q1 F σ H1 S1 _ (rp.grow g1) (ex.grow g1) fun e v H2 S2 q2 g2 h2 => ?_
  have g12 := g1.trans g2
  have h1 := h1.grow g2
  unfold gIdx at q2
  split at q2
  · obtain ⟨d, hd, q⟩ := q2
    obtain ⟨p, vs, rfl, r, z⟩ := h1
    obtain ⟨y, hy, hz⟩ := atI_dats z hd
    exact .inl ⟨p, vs, _, y, rfl, h2.i, .of r, hy, k _ _ H2 S2 q g12 hz⟩
  · obtain ⟨d, hd, q⟩ := q2
    simp only [BDat, Dat] at h1
    obtain ⟨p, vs, rfl, r, z⟩ := h1
    obtain ⟨y, hy, hz⟩ := atI_dats z hd
    exact .inr (.inl ⟨p, vs, _, y, rfl, h2.i, .of (g12.sh _ _ r), hy, k _ _ H2 S2 q g12 hz⟩)
  · obtain ⟨d, hd, q⟩ := q2
    simp only [BDat, Dat] at h1
    obtain ⟨p, rfl, r⟩ := h1
    exact .inl ⟨p, _, _, .int d, rfl, h2.i, by rw [hK]; exact g12.sh.seq r, by rw [atI_map, hd]; rfl, k _ _ H2 S2 q g12 .i⟩
  · obtain ⟨hz, c, hc, q⟩ := q2
    exact .inr (.inr ⟨_, _, c, h1.s, h2.i, hz, hc, k _ _ H2 S2 q g12 .s⟩)
  · exact q2.elim

/-! ### slices -/
structure OD (X : Cx) (E : XK) (e : Option Expr) (w : XS → Ev → (Option Int → Prop) → Prop) : Prop where
  ex : ∃ t, PO X e t ∧ ∀ (x : XS) (ρ : Ev) (Q : Option Int → Prop), w x ρ Q → ∀ (F : Fr) (σ : L2.St) (H S : Hp) (Q' : Option Int → Hp → Prop), Rep F ρ σ H S → ExOk X.mg E x H S →
    (∀ o H' S', Q o → Grow H S H' S' → Q' o H') → t σ H Q'
abbrev WO := XS → Ev → (Option Int → Prop) → Prop
def woNone : WO := fun _ _ Q => Q none
def woSome (wa : WE) : WO := fun x ρ Q => wa x ρ fun d => match d with
  | .int i => Q (some i)
  | _ => False
theorem od_none : OD X E none woNone := ⟨_, po_none, fun x ρ Q hw F σ H S Q' rp ex k => k none H S hw (.refl rp.sh)⟩
theorem od_some (ha : BD X E a wa) : OD X E (some a) (woSome wa) := by
  obtain ⟨t, p, s⟩ := ha.ex
  refine ⟨_, po_some p, fun x ρ Q hw F σ H S Q' rp ex k => ?_⟩
  refine s x ρ _ hw F σ H S _ rp ex fun d u H1 S1 q1 g1 h1 => ?_
  cases d with
  | int i => exact ⟨i, h1.i, k _ H1 S1 q1 g1⟩
  | _ => exact q1.elim
def cut {α : Type} (xs : List α) (lo hi : Option Int) : List α := (xs.drop (HT.sIx xs.length 0 lo)).take (HT.sIx xs.length xs.length hi - HT.sIx xs.length 0 lo)
omit [KC] in
theorem cut_map {α β : Type} (f : α → β) (xs : List α) (lo hi : Option Int) : cut (xs.map f) lo hi = (cut xs lo hi).map f := by
  unfold cut
  rw [List.length_map, List.map_take, List.map_drop]
theorem cut_dats {S : Hp} {xs : List D} {vs : List V} (q : Dats S xs vs) (lo hi : Option Int) : Dats S (cut xs lo hi) (cutV vs lo hi) := by
  unfold cut cutV
  rw [q.len]
  exact (q.drop _).take _
variable {lo hi : Option Expr} {wo wh : XS → Ev → (Option Int → Prop) → Prop} {p2 : Pos}
def gSl : D → Option Int → Option Int → (D → Prop) → Prop
  | .lst xs, l, h, Q => Q (.lst (cut xs l h))
  | .scr ns, l, h, Q => Q (.lst ((cut ns l h).map D.int))
  | .str z, l, h, Q => z.length ≤ sizeLine ∧ Q (.str (cutS z l h))
  | .tup xs, l, h, Q => ¬ (HT.sIx xs.length 0 l = 0 ∧ HT.sIx xs.length xs.length h = xs.length) ∧ Q (.tup (cut xs l h))
  | _, _, _, _ => False
theorem lay_tup {H S : Hp} {xs : List D} {vs : List V} {p : Addr} (sh : Same S H) (hp : H p = none) (q : Dats S xs vs) :
    Grow H S (upd H p (.tup vs)) (upd S p (.tup vs)) ∧ Dat (upd S p (.tup vs)) (.tup xs) (.ref p) := by
  have h0 := sh.free hp
  refine ⟨((Grow.refl sh).lay hp).share hp h0 upd_same, ?_⟩
  unfold Dat
  exact ⟨p, vs, rfl, upd_same, Dats.mono (same_upd h0) _ _ q⟩
def wSl (wa : WE) (wo wh : WO) : WE := fun x ρ Q => wa x ρ fun d => wo x ρ fun l => wh x ρ fun h => gSl d l h Q
theorem ed_sl (ha : BD X E a wa) (hl : OD X E lo wo) (hh : OD X E hi wh) (hK : X.K = KC.K := by rfl) : ED X E (.Subscript a (.Slice lo hi none p2) pos) (wSl wa wo wh) := by
  obtain ⟨ta, pa, sa⟩ := ha.ex
  obtain ⟨tl, pl, sl⟩ := hl.ex
  obtain ⟨th, ph, sh⟩ := hh.ex
  refine ⟨_, pe_slice (sl_list.or (sl_str.or sl_tup)) pa pl ph, fun x ρ Q hw F σ H S Q' rp ex k => ?_⟩
  refine sa x ρ _ hw F σ H S _ rp ex fun d u H1 S1 q1 g1 h1 => ?_
  refine sl x ρ _ q1 F σ H1 S1 _ (rp.grow g1) (ex.grow g1) fun l H2 S2 q2 g2 => ?_
  have g12 := g1.trans g2
  refine sh x ρ _ q2 F σ H2 S2 _ (rp.grow g12) (ex.grow g12) fun h H3 S3 q3 g3 => ?_
  have g13 := g12.trans g3
  have h1 := (h1.grow g2).grow g3
  unfold gSl at q3
  split at q3
  · obtain ⟨p, vs, rfl, r, z⟩ := h1
    refine .inl ⟨p, vs, rfl, .of r, fun p hp => ?_⟩
    obtain ⟨g, y⟩ := lay_lst g13.sh hp (cut_dats z l h)
    exact k _ _ _ _ q3 (g13.trans g) y
  · simp only [BDat, Dat] at h1
    obtain ⟨p, rfl, r⟩ := h1
    refine .inl ⟨p, _, rfl, by rw [hK]; exact g13.sh.seq r, fun p hp => ?_⟩
    obtain ⟨g, y⟩ := lay_lst g13.sh hp (cut_dats (Dats.ints _) l h)
    rw [cut_map] at y
    exact k _ _ _ _ q3 (g13.trans g) y
  · exact .inr (.inl ⟨_, h1.s, q3.1, k _ _ H3 S3 q3.2 g13 .s⟩)
  · simp only [BDat, Dat] at h1
    obtain ⟨p, vs, rfl, r, z⟩ := h1
    refine .inr (.inr ⟨p, vs, rfl, .of (g13.sh _ _ r), by rw [z.len]; exact q3.1, fun p hp => ?_⟩)
    obtain ⟨g, y⟩ := lay_tup g13.sh hp (cut_dats z l h)
    exact k _ _ _ _ q3.2 (g13.trans g) y
  · exact q3.elim
def gSlF : D → Option Int → Option Int → (List D → Prop) → Prop
  | .lst xs, l, h, Q => Q (cut xs l h)
  | .scr ns, l, h, Q => Q ((cut ns l h).map D.int)
  | _, _, _, _ => False
def wSlF (wa : WE) (wo wh : WO) : WL := fun x ρ Q => wa x ρ fun d => wo x ρ fun l => wh x ρ fun h => gSlF d l h Q
theorem df_sl (ha : BD X E a wa) (hl : OD X E lo wo) (hh : OD X E hi wh) (hK : X.K = KC.K := by rfl) : DF X E (.Subscript a (.Slice lo hi none p2) pos) (wSlF wa wo wh) := by
  obtain ⟨ta, pa, sa⟩ := ha.ex
  obtain ⟨tl, pl, sl⟩ := hl.ex
  obtain ⟨th, ph, sh⟩ := hh.ex
  refine ⟨_, pe_slice sl_list pa pl ph, fun x ρ Q hw F σ H S Q' rp ex k => ?_⟩
  refine sa x ρ _ hw F σ H S _ rp ex fun d u H1 S1 q1 g1 h1 => ?_
  refine sl x ρ _ q1 F σ H1 S1 _ (rp.grow g1) (ex.grow g1) fun l H2 S2 q2 g2 => ?_
  have g12 := g1.trans g2
  refine sh x ρ _ q2 F σ H2 S2 _ (rp.grow g12) (ex.grow g12) fun h H3 S3 q3 g3 => ?_
  have g13 := g12.trans g3
  have h1 := (h1.grow g2).grow g3
  unfold gSlF at q3
  split at q3
  · obtain ⟨p, vs, rfl, r, z⟩ := h1
    exact ⟨p, vs, rfl, .of r, fun p hp => k _ p _ _ S3 q3 (g13.lay hp) (g13.freeH hp) (g13.freeS hp) upd_same (cut_dats z l h)⟩
  · simp only [BDat, Dat] at h1
    obtain ⟨p, rfl, r⟩ := h1
    refine ⟨p, _, rfl, by rw [hK]; exact g13.sh.seq r, fun p hp => ?_⟩
    refine k _ p _ _ S3 q3 (g13.lay hp) (g13.freeH hp) (g13.freeS hp) upd_same ?_
    rw [← cut_map]
    exact cut_dats (Dats.ints _) l h
  · exact q3.elim
end
end NL

namespace NL
open PySem PySem.Spec L2
open PyProof.Rows hiding St
variable [KC]

/-! ### built-in functions by data -/
section
variable {X : Cx}
structure CalD (X : Cx) (f : Value) (g : List D → (D → Prop) → Prop) : Prop where
  ex : ∃ r : List V → Hp → VK → Prop, CallR X f r ∧ ∀ (ds : List D) (Q : D → Prop), g ds Q → ∀ (H S : Hp) (vs : List V) (Q' : VK), Same S H → BDats H S ds vs →
    (∀ z y H' S', Q z → Grow H S H' S' → Dat S' z y → Q' y H') → r vs H Q'
structure CalF (X : Cx) (f : Value) (g : List D → (List D → Prop) → Prop) : Prop where
  ex : ∃ r : List V → Hp → VK → Prop, CallR X f r ∧ ∀ (ds : List D) (Q : List D → Prop), g ds Q → ∀ (H S : Hp) (vs : List V) (Q' : VK), Same S H → BDats H S ds vs →
    (∀ z ws p, Q z → H p = none → Dats S z ws → Q' (.ref p) (upd H p (.lst ws))) → r vs H Q'
def wB (g : List D → (D → Prop) → Prop) (wl : WL) : WE := fun x ρ Q => wl x ρ fun ds => g ds Q
def wBF (g : List D → (List D → Prop) → Prop) (wl : WL) : WL := fun x ρ Q => wl x ρ fun ds => g ds Q
variable {E : XK} {e a b : Expr} {es : List Expr} {pos p : Pos} {x m : Str} {w wa wb : WE} {wl : WL}
theorem ed_callB {id : String} {g : List D → (D → Prop) → Prop} (hc : CalD X (.builtin id) g) (hg : Gl X x) (hm : X.mg x = none) (hv : bootBuiltins x = some (.builtin id)) (ha : AB X E (e :: es) wl) (hn : x ≠ "__name__" := by decide)
    (hdb : (x == ("__debug__" : Str)) = false := by decide) (he : starEach (e :: es) X.env = (false, eval e X.env) :: starEach es X.env := by rfl) (hpl : (backTo pos (starEach es X.env)).any (·.1) = false := by rfl) :
    ED X E (.Call (.Name x p) (e :: es) [] pos) (wB g wl) := by
  obtain ⟨r, o, so⟩ := hc.ex
  obtain ⟨t, pt, s⟩ := ha.ex
  refine ⟨_, pe_callB o hg hm hv pt hn hdb he hpl, fun x ρ Q hw F σ H S Q' rp ex k => ?_⟩
  refine s x ρ _ hw F σ H S _ rp ex fun ds vs H1 S1 q1 g1 h1 => ?_
  exact so ds Q q1 H1 S1 vs Q' g1.sh h1 fun z y H2 S2 q2 g2 h2 => k z y H2 S2 q2 (g1.trans g2) h2
theorem ed_callT {T : String} {g : List D → (D → Prop) → Prop} (hc : CalD X (.type T) g) (hg : Gl X x) (hm : X.mg x = none) (hv : bootBuiltins x = some (.type T)) (ha : AB X E (e :: es) wl) (hn : x ≠ "__name__" := by decide)
    (hdb : (x == ("__debug__" : Str)) = false := by decide) (he : starEach (e :: es) X.env = (false, eval e X.env) :: starEach es X.env := by rfl) (hpl : (backTo pos (starEach es X.env)).any (·.1) = false := by rfl) :
    ED X E (.Call (.Name x p) (e :: es) [] pos) (wB g wl) := by
  obtain ⟨r, o, so⟩ := hc.ex
  obtain ⟨t, pt, s⟩ := ha.ex
  refine ⟨_, pe_callTy o hg hm hv pt hn hdb he hpl, fun x ρ Q hw F σ H S Q' rp ex k => ?_⟩
  refine s x ρ _ hw F σ H S _ rp ex fun ds vs H1 S1 q1 g1 h1 => ?_
  exact so ds Q q1 H1 S1 vs Q' g1.sh h1 fun z y H2 S2 q2 g2 h2 => k z y H2 S2 q2 (g1.trans g2) h2
theorem df_callB {id : String} {g : List D → (List D → Prop) → Prop} (hc : CalF X (.builtin id) g) (hg : Gl X x) (hm : X.mg x = none) (hv : bootBuiltins x = some (.builtin id)) (ha : AB X E (e :: es) wl) (hn : x ≠ "__name__" := by decide)
    (hdb : (x == ("__debug__" : Str)) = false := by decide) (he : starEach (e :: es) X.env = (false, eval e X.env) :: starEach es X.env := by rfl) (hpl : (backTo pos (starEach es X.env)).any (·.1) = false := by rfl) :
    DF X E (.Call (.Name x p) (e :: es) [] pos) (wBF g wl) := by
  obtain ⟨r, o, so⟩ := hc.ex
  obtain ⟨t, pt, s⟩ := ha.ex
  refine ⟨_, pe_callB o hg hm hv pt hn hdb he hpl, fun x ρ Q hw F σ H S Q' rp ex k => ?_⟩
  refine s x ρ _ hw F σ H S _ rp ex fun ds vs H1 S1 q1 g1 h1 => ?_
  exact so ds Q q1 H1 S1 vs Q' g1.sh h1 fun z ws p q2 hp h2 => k z p ws _ S1 q2 (g1.lay hp) (g1.freeH hp) (g1.freeS hp) upd_same h2
theorem df_callT {T : String} {g : List D → (List D → Prop) → Prop} (hc : CalF X (.type T) g) (hg : Gl X x) (hm : X.mg x = none) (hv : bootBuiltins x = some (.type T)) (ha : AB X E (e :: es) wl) (hn : x ≠ "__name__" := by decide)
    (hdb : (x == ("__debug__" : Str)) = false := by decide) (he : starEach (e :: es) X.env = (false, eval e X.env) :: starEach es X.env := by rfl) (hpl : (backTo pos (starEach es X.env)).any (·.1) = false := by rfl) :
    DF X E (.Call (.Name x p) (e :: es) [] pos) (wBF g wl) := by
  obtain ⟨r, o, so⟩ := hc.ex
  obtain ⟨t, pt, s⟩ := ha.ex
  refine ⟨_, pe_callTy o hg hm hv pt hn hdb he hpl, fun x ρ Q hw F σ H S Q' rp ex k => ?_⟩
  refine s x ρ _ hw F σ H S _ rp ex fun ds vs H1 S1 q1 g1 h1 => ?_
  exact so ds Q q1 H1 S1 vs Q' g1.sh h1 fun z ws p q2 hp h2 => k z p ws _ S1 q2 (g1.lay hp) (g1.freeH hp) (g1.freeS hp) upd_same h2

def gLen : List D → (D → Prop) → Prop
  | [.str s], Q => s.length ≤ sizeLine ∧ Q (.int s.length)
  | [.lst xs], Q => Q (.int xs.length)
  | [.tup xs], Q => Q (.int xs.length)
  | [.scr xs], Q => Q (.int xs.length)
  | [.dct ks xs], Q => Q (.int xs.length)
  | _, _ => False
theorem BDats.one {H S : Hp} {d : D} {vs : List V} (h : BDats H S [d] vs) : ∃ v, vs = [v] ∧ BDat H S d v := by
  obtain ⟨v, r, e, h1, h2⟩ := h
  unfold BDats at h2
  subst h2
  exact ⟨v, e, h1⟩
theorem BDats.two {H S : Hp} {d d' : D} {vs : List V} (h : BDats H S [d, d'] vs) : ∃ v v', vs = [v, v'] ∧ BDat H S d v ∧ BDat H S d' v' := by
  obtain ⟨v, r, e, h1, v', r', e', h2, h3⟩ := h
  unfold BDats at h3
  subst h3
  subst e'
  exact ⟨v, v', e, h1, h2⟩
theorem cLen (hK : X.K = KC.K := by rfl) : CalD X (.builtin "len") gLen := by
  refine ⟨_, call_len.or call_lenD, fun ds Q h H S vs Q' sh hd k => ?_⟩
  unfold gLen at h
  split at h
  · obtain ⟨v, rfl, hz⟩ := hd.one
    cases hz.s
    exact .inl ⟨_, _, rfl, ⟨h.1, rfl⟩, k _ _ H S h.2 (.refl sh) .i⟩
  · obtain ⟨v, rfl, hz⟩ := hd.one
    obtain ⟨a, ws, rfl, r, z⟩ := hz
    exact .inl ⟨_, _, rfl, .inl ⟨ws, .of r, rfl⟩, by rw [z.len]; exact k _ _ H S h (.refl sh) .i⟩
  · obtain ⟨v, rfl, hz⟩ := hd.one
    simp only [BDat, Dat] at hz
    obtain ⟨a, ws, rfl, r, z⟩ := hz
    exact .inl ⟨_, _, rfl, .inr ⟨ws, .of (sh _ _ r), rfl⟩, by rw [z.len]; exact k _ _ H S h (.refl sh) .i⟩
  · obtain ⟨v, rfl, hz⟩ := hd.one
    simp only [BDat, Dat] at hz
    obtain ⟨a, rfl, r⟩ := hz
    exact .inl ⟨_, _, rfl, .inl ⟨_, (by rw [hK]; exact sh.seq r), rfl⟩, by rw [List.length_map]; exact k _ _ H S h (.refl sh) .i⟩
  · obtain ⟨v, rfl, hz⟩ := hd.one
    obtain ⟨a, kvs, rfl, r, z1, z2⟩ := hz
    refine .inr ⟨a, kvs, rfl, r, ?_⟩
    have := z2.len
    rw [List.length_map] at this
    rw [this]
    exact k _ _ H S h (.refl sh) .i
  · exact h.elim
def gInt1 (f : Int → Int) : List D → (D → Prop) → Prop
  | [.int i], Q => Q (.int (f i))
  | _, _ => False
theorem cAbs : CalD X (.builtin "abs") (gInt1 fun i => if i < 0 then -i else i) := by
  refine ⟨_, call_abs, fun ds Q h H S vs Q' sh hd k => ?_⟩
  unfold gInt1 at h
  split at h
  · obtain ⟨v, rfl, hz⟩ := hd.one
    cases hz.i
    exact ⟨_, rfl, k _ _ H S h (.refl sh) .i⟩
  · exact h.elim
def gInt2 (f : Int → Int → Int) : List D → (D → Prop) → Prop
  | [.int i, .int j], Q => Q (.int (f i j))
  | _, _ => False
theorem cMax (hc : X.calm = true) : CalD X (.builtin "max") (gInt2 fun i j => if j > i then j else i) := by
  refine ⟨_, call_max2 hc, fun ds Q h H S vs Q' sh hd k => ?_⟩
  unfold gInt2 at h
  split at h
  · obtain ⟨v, v', rfl, h1, h2⟩ := hd.two
    cases h1.i
    cases h2.i
    exact ⟨_, _, rfl, k _ _ H S h (.refl sh) .i⟩
  · exact h.elim
theorem cMin (hc : X.calm = true) : CalD X (.builtin "min") (gInt2 fun i j => if j < i then j else i) := by
  refine ⟨_, call_min2 hc, fun ds Q h H S vs Q' sh hd k => ?_⟩
  unfold gInt2 at h
  split at h
  · obtain ⟨v, v', rfl, h1, h2⟩ := hd.two
    cases h1.i
    cases h2.i
    exact ⟨_, _, rfl, k _ _ H S h (.refl sh) .i⟩
  · exact h.elim
def gToInt : List D → (D → Prop) → Prop
  | [.int i], Q => Q (.int i)
  | [.bl b], Q => Q (.int (if b then 1 else 0))
  | _, _ => False
theorem cInt : CalD X (.type "int") gToInt := by
  refine ⟨_, call_int1, fun ds Q h H S vs Q' sh hd k => ?_⟩
  unfold gToInt at h
  split at h
  · obtain ⟨v, rfl, hz⟩ := hd.one
    cases hz.i
    exact .inl ⟨_, rfl, k _ _ H S h (.refl sh) .i⟩
  · obtain ⟨v, rfl, hz⟩ := hd.one
    cases hz.b
    exact .inr ⟨_, rfl, k _ _ H S h (.refl sh) .i⟩
  · exact h.elim
def gListF : List D → (List D → Prop) → Prop
  | [.lst xs], Q => Q xs
  | [.tup xs], Q => Q xs
  | [.scr ns], Q => Q (ns.map D.int)
  | _, _ => False
theorem cListF (hK : X.K = KC.K := by rfl) : CalF X (.type "list") gListF := by
  refine ⟨_, call_list_of, fun ds Q h H S vs Q' sh hd k => ?_⟩
  unfold gListF at h
  split at h
  · obtain ⟨v, rfl, hz⟩ := hd.one
    obtain ⟨a, ws, rfl, r, z⟩ := hz
    exact ⟨a, ws, rfl, .inl (.of r), fun l hl => k _ _ _ h hl z⟩
  · obtain ⟨v, rfl, hz⟩ := hd.one
    simp only [BDat, Dat] at hz
    obtain ⟨a, ws, rfl, r, z⟩ := hz
    exact ⟨a, ws, rfl, .inr (.of (sh _ _ r)), fun l hl => k _ _ _ h hl z⟩
  · obtain ⟨v, rfl, hz⟩ := hd.one
    simp only [BDat, Dat] at hz
    obtain ⟨a, rfl, r⟩ := hz
    exact ⟨a, _, rfl, .inl (by rw [hK]; exact sh.seq r), fun l hl => k _ _ _ h hl (Dats.ints _)⟩
  · exact h.elim

/-! ### isinstance of a built-in type -/
def tyName : D → Option String
  | .non => some "NoneType"
  | .bl _ => some "bool"
  | .int _ => some "int"
  | .str _ => some "str"
  | .lst _ => some "list"
  | .tup _ => some "tuple"
  | .dct _ _ => some "dict"
  | _ => none
theorem tyName_sound {H S : Hp} {d : D} {v : V} {K : PySem.W.Frag} {n : String} (sh : Same S H) (h : BDat H S d v) (e : tyName d = some n) : TyX K H v (.type n) := by
  cases d with
  | non => cases e; cases h.n; exact .base .non
  | bl b => cases e; cases h.b; exact .base (.bl b)
  | int i => cases e; cases h.i; exact .base (.int i)
  | str s => cases e; cases h.s; exact .base (.str s)
  | lst xs => cases e; obtain ⟨a, vs, rfl, r, _⟩ := h; exact .base (.lst r)
  | scr ns => cases e
  | tup xs =>
    cases e
    simp only [BDat, Dat] at h
    obtain ⟨a, vs, rfl, r, _⟩ := h
    exact .base (.tup (sh _ _ r))
  | dct ks xs => cases e; obtain ⟨a, vs, rfl, r, _⟩ := h; exact .base (.dK r)
  | ref a => cases e
  | obj _ _ _ => cases e
  | dkz _ _ => cases e
def gIsT (T : String) (d : D) (Q : D → Prop) : Prop := ∃ n, tyName d = some n ∧ ∃ b, kitB n T = some b ∧ Q (.bl b)
def wIsT (T : String) (wa : WE) : WE := fun x ρ Q => wa x ρ fun d => gIsT T d Q
theorem ed_isT {T : String} {y : Str} {p2 : Pos} (hg : Gl X "isinstance") (hm : X.mg "isinstance" = none) (hgT : Gl X y) (hmT : X.mg y = none) (hvT : bootBuiltins y = some (.type T)) (ha : BD X E a wa)
    (hn : y ≠ "__name__" := by decide) (hd : (y == ("__debug__" : Str)) = false := by decide)
    (he : starEach (a :: [.Name y p2]) X.env = (false, eval a X.env) :: starEach [.Name y p2] X.env := by rfl) (he2 : starEach [.Name y p2] X.env = (false, eval (.Name y p2) X.env) :: starEach [] X.env := by rfl) (hpl : (backTo pos (starEach [.Name y p2] X.env)).any (·.1) = false := by rfl) :
    ED X E (.Call (.Name "isinstance" p) [a, .Name y p2] [] pos) (wIsT T wa) := by
  obtain ⟨t, pt, s⟩ := ha.ex
  have pT : PE X (.Name y p2) (tC (.ty T)) := pe_bltn hgT hmT hvT rfl hn hd
  refine ⟨_, pe_callB call_isi hg hm (by decide +kernel) (pa_cons pt (pa_cons pT pa_nil he2) he) (by decide) (by decide) he hpl, fun x ρ Q hw F σ H S Q' rp ex k => ?_⟩
  refine s x ρ _ hw F σ H S _ rp ex fun d u H1 S1 q1 g1 h1 => ?_
  obtain ⟨n, e1, b, e2, q⟩ := q1
  exact ⟨u, .ty T, .type n, .type T, b, rfl, .ty T, tyName_sound g1.sh h1 e1, kit_ty e2, k _ _ H1 S1 q g1 .b⟩

/-! ### a def's promise by data -/
inductive Rt where
  | val (d : D) | new (c : Cn) | newT (d : D)
/-- a new tuple; what it refers to is new, each but once -/
def FreshT (H S' : Hp) (v : V) : Prop := ∃ p vs, v = .ref p ∧ H p = none ∧ S' p = some (.tup vs) ∧ (∀ a, V.ref a ∈ vs → H a = none) ∧ ∀ (i j : Nat) (a : Addr), vs[i]? = some (V.ref a) → vs[j]? = some (V.ref a) → i = j
abbrev Spec := List D → XS → (Rt → Prop) → Prop
def RtP (H H' S' : Hp) : Rt → V → Prop
  | .val d, v => Dat S' d v
  | .new c, v => ∃ p o, v = .ref p ∧ H p = none ∧ S' p = none ∧ H' p = some o ∧ CnOk S' c o
  | .newT d, v => Dat S' d v ∧ FreshT H S' v
def spOf (mg : Str → Option Value) (sp : Spec) : Sp := fun vs H Q E => ∃ ds S x R, (Same S H ∧ Tbq S H) ∧ Dats S ds vs ∧ sp ds x R ∧
  (∀ r v H' S', R r → Grow H S H' S' → RtP H H' S' r v → Q v H') ∧ (∀ n C H' S', x n → mg n = some (.ref C) → Grow H S H' S' → E (.ref C) none H')
def Rt.d : Rt → D
  | .val d => d
  | .new c => c.d
  | .newT d => d
/-- a def is asked; what comes behind is not looked at -/
def Ask (sp : Spec) (ds : List D) (x : XS) (K : Rt → Prop) (_ : Tg K) : Prop := sp ds x K
def wCall (sp : Spec) (wl : WL) : WE := fun x ρ Q => wl x ρ fun ds => Ask sp ds x (fun r => Q r.d) ⟨⟩
theorem RtP.dat {H S H' S' : Hp} (g : Grow H S H' S') : ∀ {r : Rt} {v : V}, RtP H H' S' r v → ∃ S2, Grow H S H' S2 ∧ Dat S2 r.d v
  | .val d, v, h => ⟨S', g, h⟩
  | .newT d, v, h => ⟨S', g, h.1⟩
  | .new c, v, ⟨p, o, e, h0, h1, h2, h3⟩ => ⟨upd S' p o, g.share h0 h1 h2, by
      subst e
      exact CnOk.dat upd_same (h3.mono (same_upd h1))⟩
variable {k : Nat} {f : Addr} {fd : FuncData} {ps : List Str} {sp : Spec}
theorem ed_call (G : FnOk X.prog X.w X.K X.mg X.base (L2N.CX X.prog X.w) k f fd ps (spOf X.mg sp)) (hr : Room k X.A) (xk : XOk X E) (hg : Gl X x) (hm : X.mg x = some (.ref f)) (hk : PySem.W.keepIn X.K (.ref f) = true) (hb : Binds X.K fd ps [])
    (ha : AD X E (e :: es) wl) (hdb : (x == ("__debug__" : Str)) = false := by decide) (he : starEach (e :: es) X.env = (false, eval e X.env) :: starEach es X.env := by rfl) (hpl : (backTo pos (starEach es X.env)).any (·.1) = false := by rfl) :
    ED X E (.Call (.Name x p) (e :: es) [] pos) (wCall sp wl) := by
  obtain ⟨t, pt, s⟩ := ha.ex
  refine ⟨_, pe_call G hr hg hm hk hb .nil xk.pass pt hdb he hpl, fun x ρ Q hw F σ H S Q' rp ex k => ?_⟩
  refine s x ρ _ hw F σ H S _ rp ex fun ds vs H1 S1 q1 g1 h1 => ?_
  refine ⟨ds, S1, x, _, ⟨g1.sh, (rp.grow g1).fg.tb⟩, by rw [List.append_nil]; exact h1, q1, fun r v H2 S2 q2 g2 h2 => ?_, fun n C H2 S2 xn hC g2 => ex n C H2 S2 xn hC (g1.trans g2)⟩
  obtain ⟨S3, g3, h3⟩ := h2.dat g2
  exact k _ _ H2 S3 q2 (g1.trans g3) h3
theorem ed_call0 (G : FnOk X.prog X.w X.K X.mg X.base (L2N.CX X.prog X.w) k f fd ps (spOf X.mg sp)) (hr : Room k X.A) (xk : XOk X E) (hg : Gl X x) (hm : X.mg x = some (.ref f)) (hk : PySem.W.keepIn X.K (.ref f) = true) (hb : Binds X.K fd ps [])
    (hdb : (x == ("__debug__" : Str)) = false := by decide) : ED X E (.Call (.Name x p) [] [] pos) (wCall sp wNil) := by
  refine ⟨_, pe_call0 G hr hg hm hk hb .nil xk.pass hdb, fun x ρ Q hw F σ H S Q' rp ex k => ?_⟩
  refine ⟨[], S, x, _, ⟨rp.sh, rp.fg.tb⟩, .nil, hw, fun r v H2 S2 q2 g2 h2 => ?_, fun n C H2 S2 xn hC g2 => ex n C H2 S2 xn hC g2⟩
  obtain ⟨S3, g3, h3⟩ := h2.dat g2
  exact k _ _ H2 S3 q2 g3 h3
/-- a call whose result is a new list, nobody else's -/
def onNew (Q : List D → Prop) : Rt → Prop
  | .new (.lst xs) => Q xs
  | _ => False
def wCallF (sp : Spec) (wl : WL) : WL := fun x ρ Q => wl x ρ fun ds => Ask sp ds x (onNew Q) ⟨⟩
theorem df_call (G : FnOk X.prog X.w X.K X.mg X.base (L2N.CX X.prog X.w) k f fd ps (spOf X.mg sp)) (hr : Room k X.A) (xk : XOk X E) (hg : Gl X x) (hm : X.mg x = some (.ref f)) (hk : PySem.W.keepIn X.K (.ref f) = true) (hb : Binds X.K fd ps [])
    (ha : AD X E (e :: es) wl) (hdb : (x == ("__debug__" : Str)) = false := by decide) (he : starEach (e :: es) X.env = (false, eval e X.env) :: starEach es X.env := by rfl) (hpl : (backTo pos (starEach es X.env)).any (·.1) = false := by rfl) :
    DF X E (.Call (.Name x p) (e :: es) [] pos) (wCallF sp wl) := by
  obtain ⟨t, pt, s⟩ := ha.ex
  refine ⟨_, pe_call G hr hg hm hk hb .nil xk.pass pt hdb he hpl, fun x ρ Q hw F σ H S Q' rp ex k => ?_⟩
  refine s x ρ _ hw F σ H S _ rp ex fun ds vs H1 S1 q1 g1 h1 => ?_
  refine ⟨ds, S1, x, _, ⟨g1.sh, (rp.grow g1).fg.tb⟩, by rw [List.append_nil]; exact h1, q1, fun r v H2 S2 q2 g2 h2 => ?_, fun n C H2 S2 xn hC g2 => ex n C H2 S2 xn hC (g1.trans g2)⟩
  cases r with
  | val d => exact q2.elim
  | newT d => exact q2.elim
  | new c =>
    cases c with
    | dct _ _ => exact q2.elim
    | obj _ _ _ => exact q2.elim
    | lst xs =>
      obtain ⟨p, o, rfl, z0, z1, z2, ws, rfl, z3⟩ := h2
      exact k xs p ws H2 S2 q2 (g1.trans g2) (g1.freeH z0) z1 z2 z3
/-! a call with things that a slot owns: they are read, and none of them is in what comes back -/
mutual
def nl : D → Bool
  | .tup xs => nls xs
  | .lst _ => false
  | .dct _ _ => false
  | .dkz _ _ => false
  | .obj _ _ _ => false
  | .scr _ => false
  | _ => true
def nls : List D → Bool
  | [] => true
  | x :: xs => nl x && nls xs
end
def tops : List V → Addr → Bool
  | [], _ => false
  | .ref p :: r, a => (p == a) || tops r a
  | _ :: r, a => tops r a
open Classical in
noncomputable def plusS (H S : Hp) (vs : List V) : Hp := fun a => if S a = none ∧ tops vs a = true ∧ ∃ o, H a = some o ∧ (∀ xs, o ≠ .tup xs) ∧ (∀ ps, o ≠ .tbl ps) then H a else S a
open Classical in
noncomputable def minusS (H S S' : Hp) (vs : List V) : Hp := fun a => if S a = none ∧ tops vs a = true ∧ ∃ o, H a = some o ∧ (∀ xs, o ≠ .tup xs) ∧ (∀ ps, o ≠ .tbl ps) then none else S' a
theorem plus_same {H S : Hp} {vs : List V} : Same S (plusS H S vs) := fun a o h => by
  unfold plusS
  rw [if_neg (fun z => by rw [z.1] at h; cases h)]
  exact h
theorem plus_sh {H S : Hp} {vs : List V} (sh : Same S H) : Same (plusS H S vs) H := fun a o h => by
  unfold plusS at h
  split at h
  · exact h
  · exact sh a o h
theorem plus_in {H S : Hp} {vs : List V} {p : Addr} {o : HO} (sh : Same S H) (h : H p = some o) (ht : tops vs p = true) (ho : ∀ xs, o ≠ .tup xs) (hb : ∀ ps, o ≠ .tbl ps) : plusS H S vs p = some o := by
  unfold plusS
  by_cases c : S p = none
  · rw [if_pos ⟨c, ht, o, h, ho, hb⟩]
    exact h
  · rw [if_neg (fun z => c z.1)]
    cases q : S p with
    | none => exact absurd q c
    | some u =>
      have := sh p u q
      rw [h] at this
      exact this.symm
theorem plus_dats {H S : Hp} (sh : Same S H) : ∀ {ds : List D} {vs ws : List V}, BDats H S ds vs → (∀ a, tops vs a = true → tops ws a = true) → Dats (plusS H S ws) ds vs
  | [], vs, ws, h, _ => by unfold BDats at h; subst h; exact .nil
  | d :: ds, vs, ws, ⟨v, r, e, h, q⟩, ht => by
    subst e
    refine .cons ?_ (plus_dats sh q fun a ha => ht a ?_)
    · cases d with
      | lst xs =>
        obtain ⟨a, us, rfl, ra, z⟩ := h
        exact .lstOf (plus_in sh ra (ht a (by simp [tops])) (fun _ z => by cases z) (fun _ z => by cases z)) (Dats.mono plus_same _ _ z)
      | dct ks xs =>
        obtain ⟨a, us, rfl, ra, z1, z2⟩ := h
        unfold Dat
        exact ⟨a, us, rfl, plus_in sh ra (ht a (by simp [tops])) (fun _ z => by cases z) (fun _ z => by cases z), z1, Dats.mono plus_same _ _ z2⟩
      | non => exact Dat.mono plus_same .non v h
      | bl b => exact Dat.mono plus_same (.bl b) v h
      | int b => exact Dat.mono plus_same (.int b) v h
      | str b => exact Dat.mono plus_same (.str b) v h
      | ref b => exact Dat.mono plus_same (.ref b) v h
      | dkz ks b => exact Dat.mono plus_same (.dkz ks b) v h
      | obj c fs xs =>
        obtain ⟨a, dx, us, rfl, ra, z1, z2⟩ := h
        unfold Dat
        exact ⟨a, dx, us, rfl, plus_in sh ra (ht a (by simp [tops])) (fun _ z => by cases z) (fun _ z => by cases z), z1, Dats.mono plus_same _ _ z2⟩
      | scr b => exact Dat.mono plus_same (.scr b) v h
      | tup b => exact Dat.mono plus_same (.tup b) v h
    · cases v <;> simp_all [tops]
theorem plus_tb {H S : Hp} {vs : List V} (t : Tbq S H) : Tbq (plusS H S vs) H := ⟨t.1, fun x hx => by
  obtain ⟨ps, h2, _⟩ := t.1 x hx
  unfold plusS
  rw [if_neg (fun ⟨_, _, o, ho, _, n⟩ => n ps (Option.some.inj (ho.symm.trans h2)))]
  exact t.2 x hx⟩
theorem minus_grow {H S H' S' : Hp} {vs : List V} (sh : Same S H) (g : Grow H (plusS H S vs) H' S') : Grow H S H' (minusS H S S' vs) := by
  refine ⟨g.hh, fun a o h => ?_, fun a o h => ?_, fun a ha => ?_⟩
  · unfold minusS
    rw [if_neg (fun z => by rw [z.1] at h; cases h)]
    exact g.ss a o (plus_same a o h)
  · unfold minusS at h
    split at h
    · cases h
    · exact g.sh a o h
  · unfold minusS
    split
    · rename_i z
      exact z.1.symm
    · rename_i z
      rw [g.nw a ha]
      unfold plusS
      rw [if_neg z]
mutual
theorem minus_dat {H S H' S' : Hp} {vs : List V} (g : Grow H (plusS H S vs) H' S') : ∀ (d : D) (v : V), nl d = true → Dat S' d v → Dat (minusS H S S' vs) d v
  | .non, v, _, h => by unfold Dat at h ⊢; exact h
  | .bl _, v, _, h => by unfold Dat at h ⊢; exact h
  | .int _, v, _, h => by unfold Dat at h ⊢; exact h
  | .str _, v, _, h => by unfold Dat at h ⊢; exact h
  | .ref _, v, _, h => by unfold Dat at h ⊢; exact h
  | .scr _, v, n, _ => by simp [nl] at n
  | .lst _, v, n, _ => by simp [nl] at n
  | .dct _ _, v, n, _ => by simp [nl] at n
  | .dkz _ _, v, n, _ => by simp [nl] at n
  | .obj _ _ _, v, n, _ => by simp [nl] at n
  | .tup xs, v, n, h => by
    unfold Dat at h ⊢
    obtain ⟨a, ws, e, r, z⟩ := h
    refine ⟨a, ws, e, ?_, minus_dats g xs ws (by simpa [nl] using n) z⟩
    unfold minusS
    rw [if_neg]
    · exact r
    · rintro ⟨z1, z2, o, ho, hn⟩
      have e1 : plusS H S vs a = some o := by
        unfold plusS
        rw [if_pos ⟨z1, z2, o, ho, hn⟩]
        exact ho
      have e2 := g.ss a o e1
      rw [r] at e2
      cases e2
      exact hn.1 ws rfl
theorem minus_dats {H S H' S' : Hp} {vs : List V} (g : Grow H (plusS H S vs) H' S') : ∀ (xs : List D) (ws : List V), nls xs = true → Dats S' xs ws → Dats (minusS H S S' vs) xs ws
  | [], _, _, h => by unfold Dats at h ⊢; exact h
  | x :: xs, _, n, h => by
    unfold Dats at h ⊢
    obtain ⟨v, r, e, h1, h2⟩ := h
    have n' : nl x = true ∧ nls xs = true := by simpa [nls] using n
    exact ⟨v, r, e, minus_dat g x v n'.1 h1, minus_dats g xs r n'.2 h2⟩
end
def nlR : Rt → Bool
  | .val d => nl d
  | .new (.lst xs) => nls xs
  | .new (.dct _ xs) => false
  | .new (.obj _ _ xs) => false
  | .newT d => nl d
theorem minus_rt {H S H' S' : Hp} {vs : List V} (g : Grow H (plusS H S vs) H' S') : ∀ {r : Rt} {v : V}, nlR r = true → RtP H H' S' r v → RtP H H' (minusS H S S' vs) r v
  | .val d, v, n, h => minus_dat g d v n h
  | .new (.dct _ _), v, n, _ => by cases n
  | .new (.obj _ _ _), v, n, _ => by cases n
  | .newT d, v, n, ⟨h, p, us, e, h0, h1, h2⟩ => ⟨minus_dat g d v n h, p, us, e, h0, by
      unfold minusS
      rw [if_neg (fun z => by
        obtain ⟨_, _, o, z, w⟩ := z
        have := g.sh p _ h1
        by_cases y : H p = none
        · rw [y] at z; cases z
        · exact y h0)]
      exact h1, h2⟩
  | .new (.lst xs), v, n, ⟨p, o, e, h0, h1, h2, ws, h3, h4⟩ => by
    refine ⟨p, o, e, h0, ?_, h2, ws, h3, minus_dats g xs ws n h4⟩
    unfold minusS
    split
    · rfl
    · exact h1
def wCallN (sp : Spec) (wl : WL) : WE := fun x ρ Q => wl x ρ fun ds => Ask sp ds x (fun r => nlR r = true ∧ Q r.d) ⟨⟩
def wCallNF (sp : Spec) (wl : WL) : WL := fun x ρ Q => wl x ρ fun ds => Ask sp ds x (onNew fun xs => nls xs = true ∧ Q xs) ⟨⟩
theorem ed_callN (G : FnOk X.prog X.w X.K X.mg X.base (L2N.CX X.prog X.w) k f fd ps (spOf X.mg sp)) (hr : Room k X.A) (xk : XOk X E) (hg : Gl X x) (hm : X.mg x = some (.ref f)) (hk : PySem.W.keepIn X.K (.ref f) = true) (hb : Binds X.K fd ps [])
    (ha : AB X E (e :: es) wl) (hdb : (x == ("__debug__" : Str)) = false := by decide) (he : starEach (e :: es) X.env = (false, eval e X.env) :: starEach es X.env := by rfl) (hpl : (backTo pos (starEach es X.env)).any (·.1) = false := by rfl) :
    ED X E (.Call (.Name x p) (e :: es) [] pos) (wCallN sp wl) := by
  obtain ⟨t, pt, s⟩ := ha.ex
  refine ⟨_, pe_call G hr hg hm hk hb .nil xk.pass pt hdb he hpl, fun x ρ Q hw F σ H S Q' rp ex k => ?_⟩
  refine s x ρ _ hw F σ H S _ rp ex fun ds vs H1 S1 q1 g1 h1 => ?_
  refine ⟨ds, plusS H1 S1 vs, x, _, ⟨plus_sh g1.sh, plus_tb (rp.grow g1).fg.tb⟩, by rw [List.append_nil]; exact plus_dats g1.sh h1 fun _ h => h, q1, fun r v H2 S2 q2 g2 h2 => ?_, fun n C H2 S2 xn hC g2 => ex n C H2 _ xn hC (g1.trans (minus_grow g1.sh g2))⟩
  obtain ⟨S3, g3, h3⟩ := (minus_rt g2 q2.1 h2).dat (minus_grow g1.sh g2)
  exact k _ _ H2 S3 q2.2 (g1.trans g3) h3
theorem df_callN (G : FnOk X.prog X.w X.K X.mg X.base (L2N.CX X.prog X.w) k f fd ps (spOf X.mg sp)) (hr : Room k X.A) (xk : XOk X E) (hg : Gl X x) (hm : X.mg x = some (.ref f)) (hk : PySem.W.keepIn X.K (.ref f) = true) (hb : Binds X.K fd ps [])
    (ha : AB X E (e :: es) wl) (hdb : (x == ("__debug__" : Str)) = false := by decide) (he : starEach (e :: es) X.env = (false, eval e X.env) :: starEach es X.env := by rfl) (hpl : (backTo pos (starEach es X.env)).any (·.1) = false := by rfl) :
    DF X E (.Call (.Name x p) (e :: es) [] pos) (wCallNF sp wl) := by
  obtain ⟨t, pt, s⟩ := ha.ex
  refine ⟨_, pe_call G hr hg hm hk hb .nil xk.pass pt hdb he hpl, fun x ρ Q hw F σ H S Q' rp ex k => ?_⟩
  refine s x ρ _ hw F σ H S _ rp ex fun ds vs H1 S1 q1 g1 h1 => ?_
  refine ⟨ds, plusS H1 S1 vs, x, _, ⟨plus_sh g1.sh, plus_tb (rp.grow g1).fg.tb⟩, by rw [List.append_nil]; exact plus_dats g1.sh h1 fun _ h => h, q1, fun r v H2 S2 q2 g2 h2 => ?_, fun n C H2 S2 xn hC g2 => ex n C H2 _ xn hC (g1.trans (minus_grow g1.sh g2))⟩
  cases r with
  | val d => exact q2.elim
  | newT d => exact q2.elim
  | new c =>
    cases c with
    | dct _ _ => exact q2.elim
    | obj _ _ _ => exact q2.elim
    | lst xs =>
      obtain ⟨p, o, rfl, z0, z1, z2, ws, rfl, z3⟩ := minus_rt (r := .new (.lst xs)) g2 q2.1 h2
      exact k xs p ws H2 _ q2.2 (g1.trans (minus_grow g1.sh g2)) (g1.freeH z0) z1 z2 z3
end
end NL

namespace NL
open PySem PySem.Spec L2
open PyProof.Rows hiding St
variable [KC]

/-! ### the readings that a data word gives, in any context -/
def canE (mg : Str → Option Value) (E : XK) (w : WE) : TE := fun σ H Q' => ∃ (x : XS) (ρ : Ev) (Q : D → Prop) (F : Fr) (S : Hp), w x ρ Q ∧ Rep F ρ σ H S ∧ ExOk mg E x H S ∧ ∀ d v H' S', Q d → Grow H S H' S' → Dat S' d v → Q' v H'
def canT (mg : Str → Option Value) (E : XK) (w : WT) : TT := fun σ H Q' => ∃ (x : XS) (ρ : Ev) (Q : Bool → Prop) (F : Fr) (S : Hp), w x ρ Q ∧ Rep F ρ σ H S ∧ ExOk mg E x H S ∧ ∀ b H' S', Q b → Grow H S H' S' → Q' b H'
theorem ED.can {X : Cx} {E : XK} {e : Expr} {w : WE} (h : ED X E e w) : PE X e (canE X.mg E w) := by
  obtain ⟨t, p, s⟩ := h.ex
  refine ⟨fun pins st σ H Q I hq => ?_⟩
  obtain ⟨x, ρ, Q2, F, S, h1, h2, h3, h4⟩ := hq
  exact p.run pins st σ H Q I (s x ρ Q2 h1 F σ H S Q h2 h3 h4)
theorem TD.can {X : Cx} {E : XK} {e : Expr} {w : WT} (h : TD X E e w) : PT X e (canT X.mg E w) := by
  obtain ⟨t, p, s⟩ := h.ex
  refine ⟨fun pins st σ H Q I hq => ?_⟩
  obtain ⟨x, ρ, Q2, F, S, h1, h2, h3, h4⟩ := hq
  exact p.run pins st σ H Q I (s x ρ Q2 h1 F σ H S Q h2 h3 h4)

/-! ### targets -/
theorem wipe_get (σ : L2.St) (j : Nat) : ∀ vs : List Nat, (wipe σ vs)[j]? = if j ∈ vs then σ[j]?.map (fun _ => none) else σ[j]?
  | [] => by simp [wipe]
  | v :: vs => by
    have ih := wipe_get σ j vs
    unfold wipe
    by_cases h : v = j
    · subst h
      rw [List.getElem?_set, if_pos rfl, wipe_length, if_pos (show v ∈ v :: vs by simp)]
      by_cases hl : v < σ.length
      · rw [if_pos hl, List.getElem?_eq_getElem hl]; rfl
      · rw [if_neg hl, List.getElem?_eq_none (by omega)]; rfl
    · rw [List.getElem?_set_ne h, ih]
      have : (j ∈ v :: vs) ↔ j ∈ vs := by
        rw [List.mem_cons]
        exact ⟨fun z => z.elim (fun z => absurd z.symm h) id, .inr⟩
      simp only [this]
theorem wipe_set {σ : L2.St} {i : Nat} {x : Option V} {vs : List Nat} (h : i ∈ vs) : wipe (σ.set i x) vs = wipe σ vs := by
  apply List.ext_getElem?
  intro j
  rw [wipe_get, wipe_get]
  by_cases hj : j ∈ vs
  · rw [if_pos hj, if_pos hj]
    by_cases e : i = j
    · subst e
      rw [List.getElem?_set, if_pos rfl]
      by_cases hl : i < σ.length
      · rw [if_pos hl, List.getElem?_eq_getElem hl]; rfl
      · rw [if_neg hl, List.getElem?_eq_none (by omega)]
    · rw [List.getElem?_set_ne e]
  · rw [if_neg hj, if_neg hj, List.getElem?_set_ne (fun e => hj (by rw [← e]; exact h))]
theorem wipe_wipe {σ : L2.St} {vs : List Nat} : wipe (wipe σ vs) vs = wipe σ vs := by
  apply List.ext_getElem?
  intro j
  rw [wipe_get, wipe_get]
  by_cases hj : j ∈ vs
  · rw [if_pos hj, if_pos hj]
    cases σ[j]? <;> rfl
  · rw [if_neg hj, if_neg hj]
def wipeE (ρ : Ev) : List Nat → Ev
  | [] => ρ
  | v :: vs => (wipeE ρ vs).set v .un
theorem Rep.wipe {F : Fr} {ρ : Ev} {σ : L2.St} {H S : Hp} (r : Rep F ρ σ H S) : ∀ vs : List Nat, Rep F (wipeE ρ vs) (L2.wipe σ vs) H S
  | [] => r
  | v :: vs => (r.wipe vs).unset
abbrev WG := D → Ev → (Ev → Prop) → Prop
structure GD (X : Cx) (tg : Expr) (is : List Nat) (g : WG) : Prop where
  ex : ∃ t, PG X tg t ∧ ∀ (d : D) (ρ : Ev) (Q : Ev → Prop), g d ρ Q → ∀ (F : Fr) (σ : L2.St) (H S : Hp) (v : V) (Q' : L2.St → Hp → Prop), Rep F ρ σ H S → Dat S d v →
    (∀ ρ' σ', Q ρ' → Rep F ρ' σ' H S → (∀ vs : List Nat, (∀ i ∈ is, i ∈ vs) → wipe σ' vs = wipe σ vs) → Q' σ' H) → t v σ H Q'
abbrev WGs := List D → Ev → (Ev → Prop) → Prop
structure GDs (X : Cx) (tgs : List Expr) (is : List Nat) (g : WGs) : Prop where
  ex : ∃ t, PGs X tgs t ∧ ∀ (ds : List D) (ρ : Ev) (Q : Ev → Prop), g ds ρ Q → ∀ (F : Fr) (σ : L2.St) (H S : Hp) (vs : List V) (Q' : L2.St → Hp → Prop), Rep F ρ σ H S → Dats S ds vs →
    (∀ ρ' σ', Q ρ' → Rep F ρ' σ' H S → (∀ vs : List Nat, (∀ i ∈ is, i ∈ vs) → wipe σ' vs = wipe σ vs) → Q' σ' H) → t vs σ H Q'
def canG (g : WG) (is : List Nat) : TG := fun v σ H Q' => ∃ (d : D) (ρ : Ev) (Q : Ev → Prop) (F : Fr) (S : Hp), g d ρ Q ∧ Rep F ρ σ H S ∧ Dat S d v ∧ ∀ ρ' σ', Q ρ' → Rep F ρ' σ' H S → (∀ vs : List Nat, (∀ i ∈ is, i ∈ vs) → wipe σ' vs = wipe σ vs) → Q' σ' H
section
variable {X : Cx} {E : XK} {pos : Pos}
theorem GD.can {tg : Expr} {is : List Nat} {g : WG} (h : GD X tg is g) : PG X tg (canG g is) := by
  obtain ⟨t, p, s⟩ := h.ex
  refine ⟨fun pins st σ H v u Q I r hq => ?_⟩
  obtain ⟨d, ρ, Q2, F, S, h1, h2, h3, h4⟩ := hq
  exact p.run pins st σ H v u Q I r (s d ρ Q2 h1 F σ H S v Q h2 h3 h4)
def wgName (i : Nat) : WG := fun d ρ Q => Q (ρ.set i (.fz d))
theorem gd_name (i : Nat) {x : Str} (hN : X.N.Nodup) (hi : X.N[i]? = some x := by rfl) (hx : Loc X.env.scope x := by first | exact Or.inl rfl | exact Or.inr rfl) (hf : X.fn x = true ∨ X.env.scope.names.lookup x = some .local := by first | exact .inl rfl | exact .inr rfl) : GD X (.Name x pos) [i] (wgName i) :=
  ⟨_, pg_name hN hi hx hf, fun d ρ Q hw F σ H S v Q' rp hd k => k _ _ hw (rp.set hd) fun vs h => wipe_set (h i (by simp))⟩
def wgNil : WGs := fun ds ρ Q => match ds with
  | [] => Q ρ
  | _ => False
def wgCons (g : WG) (gs : WGs) : WGs := fun ds ρ Q => match ds with
  | d :: r => g d ρ fun ρ1 => gs r ρ1 Q
  | _ => False
theorem gds_nil : GDs X [] [] wgNil := by
  refine ⟨_, pgs_nil, fun ds ρ Q hw F σ H S vs Q' rp hd k => ?_⟩
  cases ds with
  | nil =>
    unfold Dats at hd
    exact ⟨hd, k _ _ hw rp fun _ _ => rfl⟩
  | cons _ _ => exact hw.elim
theorem gds_cons {e : Expr} {es : List Expr} {is js : List Nat} {g : WG} {gs : WGs} (h1 : GD X e is g) (h2 : GDs X es js gs)
    (hs : (assignEach (e :: es) X.env).map (·.2) = assign e X.env :: (assignEach es X.env).map (·.2) := by rfl) : GDs X (e :: es) (is ++ js) (wgCons g gs) := by
  obtain ⟨t, p, s⟩ := h1.ex
  obtain ⟨t', p', s'⟩ := h2.ex
  refine ⟨_, pgs_cons p p' hs, fun ds ρ Q hw F σ H S vs Q' rp hd k => ?_⟩
  cases ds with
  | nil => exact hw.elim
  | cons d r =>
    unfold Dats at hd
    obtain ⟨v, ws, e, q1, q2⟩ := hd
    refine ⟨v, ws, e, s d ρ _ hw F σ H S v _ rp q1 fun ρ1 σ1 h1 r1 w1 => s' r ρ1 _ h1 F σ1 H S ws _ r1 q2 fun ρ2 σ2 h2 r2 w2 => k _ _ h2 r2 fun vs hv => ?_⟩
    rw [w2 vs (fun i hi => hv i (List.mem_append_right _ hi)), w1 vs (fun i hi => hv i (List.mem_append_left _ hi))]
def wgTup (n : Nat) (gs : WGs) : WG := fun d ρ Q => match d with
  | .tup ds => ds.length = n ∧ gs ds ρ Q
  | _ => False
theorem gd_tup {es : List Expr} {k : Nat} {is : List Nat} {gs : WGs} {n : Nat} (hc : X.calm = true) (h : GDs X es is gs) (hn : (assignEach es X.env).length = n := by rfl) (hst : (assignEach es X.env).findIdx? (·.1) = none := by rfl) :
    GD X (.Tuple es k pos) is (wgTup n gs) := by
  obtain ⟨t, p, s⟩ := h.ex
  refine ⟨_, pg_tup hc p hn hst, fun d ρ Q hw F σ H S v Q' rp hd k => ?_⟩
  cases d with
  | tup ds =>
    unfold Dat at hd
    obtain ⟨a, vs, rfl, r, q⟩ := hd
    exact ⟨a, vs, rfl, .of (rp.sh _ _ r), by rw [q.len]; exact hw.1, s ds ρ _ hw.2 F σ H S vs _ rp q k⟩
  | _ => exact hw.elim

/-! ### what is walked -/
def ItOk (J : It) (S0 : Hp) (ds : List D) : Prop := ∀ (i : Nat) (H S : Hp), Same S0 S → Same S H →
  (∀ d, ds[i]? = some d → J.go i H ∧ ∀ x H', J.yld i H x H' → ∃ S', Grow H S H' S' ∧ Dat S' d x) ∧ (ds.length ≤ i → J.stop i H)
structure ID (X : Cx) (E : XK) (tg iter : Expr) (w : WL) : Prop where
  ex : ∃ wi, PI X tg iter wi ∧ ∀ (x : XS) (ρ : Ev) (Q : List D → Prop), w x ρ Q → ∀ (F : Fr) (σ : L2.St) (H S : Hp) (R : It → Hp → Prop), Rep F ρ σ H S → ExOk X.mg E x H S →
    (∀ ds J H' S', Q ds → Grow H S H' S' → ItOk J S' ds → R J H') → wi σ H R
theorem sql_inj {K : PySem.W.Frag} : True := trivial
/-- a shared list, by its items -/
theorem it_list {K : PySem.W.Frag} {S0 : Hp} {a : Addr} {vs : List V} {ds : List D} (h : ∀ H, Same S0 H → SqL K H a vs) (q : Dats S0 ds vs) : ItOk (Itl K a) S0 ds := fun i H S e1 e2 => by
  have hs : SqL K H a vs := h H (e1.trans e2)
  refine ⟨fun d hd => ?_, fun hl => ⟨vs, hs, by rw [q.len]; exact hl⟩⟩
  obtain ⟨v, hv, hz⟩ := q.get hd
  refine ⟨⟨vs, v, hs, hv⟩, fun x H' y => ?_⟩
  obtain ⟨e, y⟩ := y
  subst e
  have := y vs hs
  rw [hv] at this
  cases this
  exact ⟨S, .refl e2, Dat.mono e1 _ _ hz⟩
def wSeq (wa : WE) : WL := fun x ρ Q => wa x ρ fun d => match d with
  | .lst xs => Q xs
  | .scr ns => Q (ns.map D.int)
  | _ => False
variable {e a b : Expr} {w wa wb wc : WE} {tg : Expr} {p : Pos}
theorem id_list (ha : ED X E a wa) (hK : X.K = KC.K := by rfl) : ID X E tg a (wSeq wa) := by
  obtain ⟨t, pt, s⟩ := ha.ex
  refine ⟨_, pi_list pt, fun x ρ Q hw F σ H S R rp ex k => ?_⟩
  refine s x ρ _ hw F σ H S _ rp ex fun d u H1 S1 q1 g1 h1 => ?_
  cases d with
  | lst xs =>
    unfold Dat at h1
    obtain ⟨a, vs, rfl, r, z⟩ := h1
    exact ⟨a, rfl, ⟨vs, .of (g1.sh _ _ r)⟩, k xs _ H1 S1 q1 g1 (it_list (fun H e => .of (e _ _ r)) z)⟩
  | scr ns =>
    unfold Dat at h1
    obtain ⟨a, rfl, r⟩ := h1
    exact ⟨a, rfl, ⟨_, by rw [hK]; exact g1.sh.seq r⟩, k _ _ H1 S1 q1 g1 (it_list (fun H e => by rw [hK]; exact e.seq r) (Dats.ints ns))⟩
  | _ => exact q1.elim
def wSeqT (wa : WE) : WL := fun x ρ Q => wa x ρ fun d => match d with
  | .tup xs => Q xs
  | _ => False
theorem id_tup (ha : ED X E a wa) : ID X E tg a (wSeqT wa) := by
  obtain ⟨t, pt, s⟩ := ha.ex
  refine ⟨_, pi_tup pt, fun x ρ Q hw F σ H S R rp ex k => ?_⟩
  refine s x ρ _ hw F σ H S _ rp ex fun d u H1 S1 q1 g1 h1 => ?_
  cases d with
  | tup xs =>
    unfold Dat at h1
    obtain ⟨a, vs, rfl, r, z⟩ := h1
    refine ⟨a, rfl, ⟨vs, .of (g1.sh _ _ r)⟩, k xs _ H1 S1 q1 g1 fun i H S e1 e2 => ?_⟩
    have hs : SqT X.K H a vs := .of (e2 _ _ (e1 _ _ r))
    refine ⟨fun d hd => ?_, fun hl => ⟨vs, hs, by rw [z.len]; exact hl⟩⟩
    obtain ⟨v, hv, hz⟩ := z.get hd
    refine ⟨⟨vs, v, hs, hv⟩, fun x H' y => ?_⟩
    obtain ⟨e, y⟩ := y
    subst e
    have := y vs hs
    rw [hv] at this
    cases this
    exact ⟨S, .refl e2, Dat.mono e1 _ _ hz⟩
  | _ => exact q1.elim
def signs (z : Str) : List D := z.cps.toList.map fun c => .str ⟨#[c]⟩
def wSigns (wa : WE) : WL := fun x ρ Q => wa x ρ fun d => match d with
  | .str z => Q (signs z)
  | _ => False
theorem id_str (ha : ED X E a wa) : ID X E tg a (wSigns wa) := by
  obtain ⟨t, pt, s⟩ := ha.ex
  refine ⟨_, pi_str pt, fun x ρ Q hw F σ H S R rp ex k => ?_⟩
  refine s x ρ _ hw F σ H S _ rp ex fun d u H1 S1 q1 g1 h1 => ?_
  cases d with
  | str z =>
    unfold Dat at h1
    refine ⟨z, h1, k _ _ H1 S1 q1 g1 fun i H S e1 e2 => ⟨fun d hd => ?_, fun hl => ?_⟩⟩
    · unfold signs at hd
      rw [List.getElem?_map] at hd
      cases q : z.cps.toList[i]? with
      | none => rw [q] at hd; cases hd
      | some c =>
        rw [q] at hd
        cases hd
        have hi : i < z.cps.size := by
          rcases Nat.lt_or_ge i z.cps.size with h | h
          · exact h
          · rw [List.getElem?_eq_none (by simpa using h)] at q; cases q
        refine ⟨hi, fun x H' y => ?_⟩
        obtain ⟨e, c', hc, y⟩ := y
        subst e
        subst y
        rw [← Array.getElem?_toList, q] at hc
        cases hc
        exact ⟨S, .refl e2, .s⟩
    · unfold signs at hl
      rw [List.length_map] at hl
      exact hl
  | _ => exact q1.elim
/-- lo, lo + c, .. so many -/
def rngD (lo c : Int) (n : Nat) : List D := (List.range n).map fun (i : Nat) => .int (lo + (i : Int) * c)
theorem it_rng {S0 : Hp} {lo : Int} {n : Nat} : ItOk (Itr lo n) S0 (rngD lo 1 n) := fun i H S e1 e2 => by
  refine ⟨fun d hd => ?_, fun hl => by unfold rngD at hl; rw [List.length_map, List.length_range] at hl; exact hl⟩
  unfold rngD at hd
  rw [List.getElem?_map] at hd
  cases q : (List.range n)[i]? with
  | none => rw [q] at hd; cases hd
  | some j =>
    rw [q] at hd
    cases hd
    obtain ⟨hi, hj⟩ := List.getElem?_eq_some_iff.mp q
    simp at hi hj
    subst hj
    refine ⟨hi, fun x H' y => ?_⟩
    obtain ⟨e, y⟩ := y
    subst e y
    exact ⟨S, .refl e2, by show Dat S (.int (lo + (i : Int) * 1)) _; rw [Int.mul_one]; exact .i⟩
theorem it_rngC {S0 : Hp} {lo c : Int} {n : Nat} : ItOk (Itc lo c n) S0 (rngD lo c n) := fun i H S e1 e2 => by
  refine ⟨fun d hd => ?_, fun hl => by unfold rngD at hl; rw [List.length_map, List.length_range] at hl; exact hl⟩
  unfold rngD at hd
  rw [List.getElem?_map] at hd
  cases q : (List.range n)[i]? with
  | none => rw [q] at hd; cases hd
  | some j =>
    rw [q] at hd
    cases hd
    obtain ⟨hi, hj⟩ := List.getElem?_eq_some_iff.mp q
    simp at hi hj
    subst hj
    refine ⟨hi, fun x H' y => ?_⟩
    obtain ⟨e, y⟩ := y
    subst e y
    exact ⟨S, .refl e2, .i⟩
def smallI (i : Int) : Prop := -(2 ^ 62) ≤ i ∧ i < 2 ^ 62
def wRng1 (wa : WE) : WL := fun x ρ Q => wa x ρ fun d => match d with
  | .int n => smallI n ∧ Q (rngD 0 1 n.toNat)
  | _ => False
theorem id_range1 (hg : Gl X "range") (hm : X.mg "range" = none) (ha : ED X E a wa) (hs : starEach [a] X.env = [(false, eval a X.env)] := by rfl) (he : starEach (a :: []) X.env = (false, eval a X.env) :: starEach [] X.env := by rfl) :
    ID X E tg (.Call (.Name "range" p) [a] [] pos) (wRng1 wa) := by
  obtain ⟨t, pt, s⟩ := (ad_cons ha ad_nil he).ex
  refine ⟨_, pi_range1 hg hm pt hs, fun x ρ Q hw F σ H S R rp ex k => ?_⟩
  refine s x ρ (fun ds => match ds with
    | [d] => match d with
      | .int n => smallI n ∧ Q (rngD 0 1 n.toNat)
      | _ => False
    | _ => False) ?_ F σ H S _ rp ex fun ds vs H1 S1 q1 g1 h1 => ?_
  · exact hw
  · split at q1
    · split at q1
      · unfold Dats Dats Dat at h1
        obtain ⟨_, _, rfl, rfl, rfl⟩ := h1
        exact ⟨_, rfl, q1.1.1, q1.1.2, k _ _ H1 S1 q1.2 g1 it_rng⟩
      · exact q1.elim
    · exact q1.elim
def wRng2 (wa wb : WE) : WL := fun x ρ Q => wa x ρ fun d => wb x ρ fun e => match d, e with
  | .int i, .int j => smallI i ∧ smallI j ∧ Q (rngD i 1 (j - i).toNat)
  | _, _ => False
theorem id_range2 (hg : Gl X "range") (hm : X.mg "range" = none) (ha : ED X E a wa) (hb : ED X E b wb) (hs : starEach [a, b] X.env = [(false, eval a X.env), (false, eval b X.env)] := by rfl) (hs2 : starEach [b] X.env = [(false, eval b X.env)] := by rfl)
    (he : starEach (a :: [b]) X.env = (false, eval a X.env) :: starEach [b] X.env := by rfl) (he2 : starEach (b :: []) X.env = (false, eval b X.env) :: starEach [] X.env := by rfl) :
    ID X E tg (.Call (.Name "range" p) [a, b] [] pos) (wRng2 wa wb) := by
  obtain ⟨t, pt, s⟩ := (ad_cons ha (ad_cons hb ad_nil he2) he).ex
  refine ⟨_, pi_range2 hg hm pt hs hs2, fun x ρ Q hw F σ H S R rp ex k => ?_⟩
  refine s x ρ (fun ds => match ds with
    | [d, e] => match d, e with
      | .int i, .int j => smallI i ∧ smallI j ∧ Q (rngD i 1 (j - i).toNat)
      | _, _ => False
    | _ => False) ?_ F σ H S _ rp ex fun ds vs H1 S1 q1 g1 h1 => ?_
  · exact hw
  · split at q1
    · split at q1
      · unfold Dats Dats Dats Dat at h1
        obtain ⟨_, _, rfl, rfl, _, _, rfl, rfl, rfl⟩ := h1
        exact ⟨_, _, rfl, ⟨q1.1.1, q1.1.2, q1.2.1.1, q1.2.1.2⟩, k _ _ H1 S1 q1.2.2 g1 it_rng⟩
      · exact q1.elim
    · exact q1.elim
def wRng3 (wa wb wc : WE) : WL := fun x ρ Q => wa x ρ fun d => wb x ρ fun e => wc x ρ fun f => match d, e, f with
  | .int i, .int j, .int l => ∃ n, RgC i j l n ∧ Q (rngD i l n)
  | _, _, _ => False
theorem id_range3 {c : Expr} (hg : Gl X "range") (hm : X.mg "range" = none) (ha : ED X E a wa) (hb : ED X E b wb) (hc : ED X E c wc) (hs : starEach [a, b, c] X.env = (false, eval a X.env) :: starEach [b, c] X.env := by rfl) (hpl : (backTo pos (starEach [b, c] X.env)).any (·.1) = false := by rfl)
    (he : starEach (a :: [b, c]) X.env = (false, eval a X.env) :: starEach [b, c] X.env := by rfl) (he2 : starEach (b :: [c]) X.env = (false, eval b X.env) :: starEach [c] X.env := by rfl) (he3 : starEach (c :: []) X.env = (false, eval c X.env) :: starEach [] X.env := by rfl) :
    ID X E tg (.Call (.Name "range" p) [a, b, c] [] pos) (wRng3 wa wb wc) := by
  obtain ⟨t, pt, s⟩ := (ad_cons ha (ad_cons hb (ad_cons hc ad_nil he3) he2) he).ex
  refine ⟨_, pi_range3 hg hm pt hs hpl, fun x ρ Q hw F σ H S R rp ex k => ?_⟩
  refine s x ρ (fun ds => match ds with
    | [d, e, f] => match d, e, f with
      | .int i, .int j, .int l => ∃ n, RgC i j l n ∧ Q (rngD i l n)
      | _, _, _ => False
    | _ => False) ?_ F σ H S _ rp ex fun ds vs H1 S1 q1 g1 h1 => ?_
  · exact hw
  · split at q1
    · split at q1
      · unfold Dats Dats Dats Dats Dat at h1
        obtain ⟨_, _, rfl, rfl, _, _, rfl, rfl, _, _, rfl, rfl, rfl⟩ := h1
        obtain ⟨n, q2, q3⟩ := q1
        exact ⟨_, _, _, n, rfl, q2, k _ _ H1 S1 q3 g1 it_rngC⟩
      · exact q1.elim
    · exact q1.elim
def wRev (wa : WE) : WL := fun x ρ Q => wa x ρ fun d => match d with
  | .lst xs => Q xs.reverse
  | _ => False
theorem id_rev (hg : Gl X "reversed") (hm : X.mg "reversed" = none) (ha : ED X E a wa) (hs : starEach [a] X.env = [(false, eval a X.env)] := by rfl) (he : starEach (a :: []) X.env = (false, eval a X.env) :: starEach [] X.env := by rfl) :
    ID X E tg (.Call (.Name "reversed" p) [a] [] pos) (wRev wa) := by
  obtain ⟨t, pt, s⟩ := (ad_cons ha ad_nil he).ex
  refine ⟨_, pi_reversed hg hm pt hs, fun x ρ Q hw F σ H S R rp ex k => ?_⟩
  refine s x ρ (fun ds => match ds with
    | [d] => match d with
      | .lst xs => Q xs.reverse
      | _ => False
    | _ => False) ?_ F σ H S _ rp ex fun ds vs H1 S1 q1 g1 h1 => ?_
  · exact hw
  · split at q1
    · split at q1
      · rename_i xs
        unfold Dats Dats Dat at h1
        obtain ⟨_, _, rfl, ⟨a, vs, rfl, r, z⟩, rfl⟩ := h1
        refine ⟨a, vs, rfl, .of (g1.sh _ _ r), k _ _ H1 S1 q1 g1 fun i H S e1 e2 => ?_⟩
        have hs : SqL X.K H a vs := .of (e2 _ _ (e1 _ _ r))
        have zl := z.len
        refine ⟨fun d hd => ?_, fun hl => by rw [List.length_reverse] at hl; show vs.length ≤ i; omega⟩
        have hi : i < xs.length := by
          rcases Nat.lt_or_ge i xs.length with h | h
          · exact h
          · rw [List.getElem?_eq_none (by simpa using h)] at hd; cases hd
        rw [List.getElem?_reverse hi] at hd
        obtain ⟨v, hv, hz⟩ := z.get hd
        rw [← zl] at hv
        refine ⟨⟨by rw [zl]; exact hi, vs, v, hs, hv⟩, fun x H' y => ?_⟩
        obtain ⟨e, y⟩ := y
        subst e
        have := y vs hs
        rw [hv] at this
        cases this
        exact ⟨S, .refl e2, Dat.mono e1 _ _ hz⟩
      · exact q1.elim
    · exact q1.elim
def pairs (xs ys : List D) : List D := (xs.zip ys).map fun p => .tup [p.1, p.2]
def numbered (xs : List D) : List D := (List.range xs.length).zip xs |>.map fun p => .tup [.int (p.1 : Nat), p.2]
def wEnum (wa : WE) : WL := fun x ρ Q => wa x ρ fun d => match d with
  | .lst xs => Q (numbered xs)
  | _ => False
theorem id_enum {elts : List Expr} {kk : Nat} {tpos : Pos} (hg : Gl X "enumerate") (hm : X.mg "enumerate" = none) (ha : ED X E a wa) (hs : starEach [a] X.env = [(false, eval a X.env)] := by rfl) (he : starEach (a :: []) X.env = (false, eval a X.env) :: starEach [] X.env := by rfl) :
    ID X E (.Tuple elts kk tpos) (.Call (.Name "enumerate" p) [a] [] pos) (wEnum wa) := by
  obtain ⟨t, pt, s⟩ := (ad_cons ha ad_nil he).ex
  refine ⟨_, pi_enum hg hm pt hs, fun x ρ Q hw F σ H S R rp ex k => ?_⟩
  refine s x ρ (fun ds => match ds with
    | [d] => match d with
      | .lst xs => Q (numbered xs)
      | _ => False
    | _ => False) ?_ F σ H S _ rp ex fun ds vs H1 S1 q1 g1 h1 => ?_
  · exact hw
  · split at q1
    · split at q1
      · rename_i xs
        unfold Dats Dats Dat at h1
        obtain ⟨_, _, rfl, ⟨a, vs, rfl, r, z⟩, rfl⟩ := h1
        refine ⟨a, vs, rfl, .of (g1.sh _ _ r), k _ _ H1 S1 q1 g1 fun i H S e1 e2 => ?_⟩
        have hs : SqL X.K H a vs := .of (e2 _ _ (e1 _ _ r))
        have zl := z.len
        refine ⟨fun d hd => ?_, fun hl => ⟨vs, hs, by unfold numbered at hl; simp at hl; omega⟩⟩
        unfold numbered at hd
        rw [List.getElem?_map] at hd
        cases q : ((List.range xs.length).zip xs)[i]? with
        | none => rw [q] at hd; cases hd
        | some pr =>
          rw [q] at hd
          cases hd
          obtain ⟨pn, pd⟩ := pr
          obtain ⟨q2, q3⟩ := List.getElem?_zip_eq_some.mp q
          obtain ⟨hi, hj⟩ := List.getElem?_eq_some_iff.mp q2
          simp at hi hj
          subst hj
          obtain ⟨v, hv, hz⟩ := z.get q3
          refine ⟨⟨vs, v, hs, hv⟩, fun x H' y => ?_⟩
          obtain ⟨T, y1, rfl, hT, rfl, y⟩ := y
          have := y vs hs
          rw [hv] at this
          cases this
          obtain ⟨g, dd⟩ := lay_tup e2 hT (.cons (.i (i := (i : Nat))) (.one (Dat.mono e1 _ _ hz)))
          exact ⟨_, g, dd⟩
      · exact q1.elim
    · exact q1.elim
def wZip (wa wb : WE) : WL := fun x ρ Q => wa x ρ fun d => wb x ρ fun e => match d, e with
  | .lst xs, .lst ys => Q (pairs xs ys)
  | _, _ => False
theorem id_zip {elts : List Expr} {kk : Nat} {tpos : Pos} (hg : Gl X "zip") (hm : X.mg "zip" = none) (ha : ED X E a wa) (hb : ED X E b wb)
    (hs : starEach [a, b] X.env = (false, eval a X.env) :: starEach [b] X.env := by rfl) (hpl : (backTo pos (starEach [b] X.env)).any (·.1) = false := by rfl) (he2 : starEach (b :: []) X.env = (false, eval b X.env) :: starEach [] X.env := by rfl) :
    ID X E (.Tuple elts kk tpos) (.Call (.Name "zip" p) [a, b] [] pos) (wZip wa wb) := by
  obtain ⟨t, pt, s⟩ := (ad_cons ha (ad_cons hb ad_nil he2) hs).ex
  refine ⟨_, pi_zip hg hm pt hs hpl, fun x ρ Q hw F σ H S R rp ex k => ?_⟩
  refine s x ρ (fun ds => match ds with
    | [d, e] => match d, e with
      | .lst xs, .lst ys => Q (pairs xs ys)
      | _, _ => False
    | _ => False) ?_ F σ H S _ rp ex fun ds vs H1 S1 q1 g1 h1 => ?_
  · exact hw
  · split at q1
    · split at q1
      · rename_i xs ys
        unfold Dats Dats Dats Dat at h1
        obtain ⟨_, _, rfl, ⟨a, vs, rfl, r, z⟩, _, _, rfl, ⟨b, us, rfl, r', z'⟩, rfl⟩ := h1
        refine ⟨a, b, vs, us, rfl, .of (g1.sh _ _ r), .of (g1.sh _ _ r'), k _ _ H1 S1 q1 g1 fun i H S e1 e2 => ?_⟩
        have hs : SqL X.K H a vs := .of (e2 _ _ (e1 _ _ r))
        have hs' : SqL X.K H b us := .of (e2 _ _ (e1 _ _ r'))
        have zl := z.len
        have zl' := z'.len
        refine ⟨fun d hd => ?_, fun hl => ⟨vs, us, hs, hs', by unfold pairs at hl; simp at hl; omega⟩⟩
        unfold pairs at hd
        rw [List.getElem?_map] at hd
        cases q : (xs.zip ys)[i]? with
        | none => rw [q] at hd; cases hd
        | some pr =>
          rw [q] at hd
          cases hd
          obtain ⟨q1, q2⟩ := List.getElem?_zip_eq_some.mp q
          obtain ⟨v, hv, hz⟩ := z.get q1
          obtain ⟨u, hu, hz'⟩ := z'.get q2
          refine ⟨⟨vs, us, v, u, hs, hs', hv, hu⟩, fun x H' y => ?_⟩
          obtain ⟨T, y1, y2, rfl, hT, rfl, y, y'⟩ := y
          have e3 := y vs hs
          rw [hv] at e3
          cases e3
          have e4 := y' us hs'
          rw [hu] at e4
          cases e4
          obtain ⟨g, dd⟩ := lay_tup e2 hT (.cons (Dat.mono e1 _ _ hz) (.one (Dat.mono e1 _ _ hz')))
          exact ⟨_, g, dd⟩
      · exact q1.elim
    · exact q1.elim

/-! ### list comprehensions -/
abbrev X0 : XS := fun _ => False
def compL (g : WG) (wt : WT) (we : WE) (ρ : Ev) (Q : List D → Prop) : List D → List D → Prop
  | [], acc => Q acc
  | d :: ds, acc => g d ρ fun ρ2 => wt X0 ρ2 fun b => Br b (we X0 ρ2 fun y => acc.length < sizeLine ∧ compL g wt we ρ Q ds (acc ++ [y])) (compL g wt we ρ Q ds acc) ⟨⟩ ⟨⟩
def wLc (wi : WL) (g : WG) (wt : WT) (we : WE) (vs : List Nat) : WL := fun x ρ Q => wi x ρ fun ds => compL g wt we (wipeE ρ vs) Q ds []
theorem exOk0 {mg : Str → Option Value} {H S : Hp} : ExOk mg E0 X0 H S := fun _ _ _ _ h => h.elim
/-- the loop, for whatever its tests are -/
theorem lc_sound {mg : Str → Option Value} {J : It} {g : WG} {is : List Nat} {wt : WT} {tt : TT} {we : WE} {vs : List Nat} {F : Fr} {ρ : Ev} {σ : L2.St} {H0 S0 H1 S1 : Hp} {ds : List D} {Q : List D → Prop} {Q' : VK} {D0 : Addr}
    (his : ∀ i ∈ is, i ∈ vs) (rp : Rep F ρ σ H0 S0) (g1 : Grow H0 S0 H1 S1) (hJ : ItOk J S1 ds) (hD : H1 D0 = none) (hw : compL g wt we (wipeE ρ vs) Q ds [])
    (ht : ∀ (ρ2 : Ev) (σ2 : L2.St) (H S : Hp) (R : Bool → Prop) (R' : Bool → Hp → Prop), wt X0 ρ2 R → Rep F ρ2 σ2 H S → (∀ b H' S', R b → Grow H S H' S' → R' b H') → tt σ2 H R')
    (k : ∀ xs ws H' S', Q xs → Grow H0 S0 H' S' → H0 D0 = none → S' D0 = none → H' D0 = some (.lst ws) → Dats S' xs ws → Q' (.ref D0) H') :
    ∃ W : Nat → Nat → Hp → Prop, (∃ m, W 0 m (upd H1 D0 (.lst []))) ∧ ∀ i m H, W i m H →
      (J.stop i H ∧ Q' (.ref D0) H) ∨ (J.go i H ∧ ∃ Nx : Hp → Prop, (∀ H', Nx H' → ∃ m', m' < m ∧ W (i + 1) m' H') ∧ ∀ x H', J.yld i H x H' → canG g is x (wipe σ vs) H' fun σ2 H2 => wipe σ2 vs = wipe σ vs ∧ tt σ2 H2 fun b H3 =>
        if b = true then canE mg E0 we σ2 H3 fun y H4 => ∃ acc, H4 D0 = some (.lst acc) ∧ acc.length < sizeLine ∧ Nx (upd H4 D0 (.lst (acc ++ [y]))) else Nx H3) := by
  have hD0 : H0 D0 = none := g1.freeH hD
  let W : Nat → Nat → Hp → Prop := fun i m H => m = ds.length - i ∧ i ≤ ds.length ∧ ∃ S acc ws, Grow H0 S0 H S ∧ Same S1 S ∧ H D0 = some (.lst ws) ∧ S D0 = none ∧ Dats S acc ws ∧ compL g wt we (wipeE ρ vs) Q (ds.drop i) acc
  refine ⟨W, ⟨ds.length, by simp, Nat.zero_le _, S1, [], [], g1.lay hD, .refl _, upd_same, g1.freeS hD, .nil, hw⟩, ?_⟩
  rintro i m H ⟨rfl, hi, S, acc, ws, gg, ss, hH, hS, hd, hc⟩
  rcases Nat.lt_or_ge i ds.length with hlt | hge
  · obtain ⟨d, hdi⟩ : ∃ d, ds[i]? = some d := ⟨_, List.getElem?_eq_getElem hlt⟩
    obtain ⟨go, yl⟩ := (hJ i H S ss gg.sh).1 d hdi
    have hdrop : ds.drop i = d :: ds.drop (i + 1) := by
      rw [List.drop_eq_getElem_cons hlt]
      congr 1
      rw [List.getElem?_eq_getElem hlt] at hdi
      exact Option.some.inj hdi
    rw [hdrop] at hc
    refine .inr ⟨go, fun H' => W (i + 1) (ds.length - (i + 1)) H', fun H' h => ⟨_, by omega, h⟩, fun x H' y => ?_⟩
    obtain ⟨S', g', dx⟩ := yl x H' y
    refine ⟨d, wipeE ρ vs, _, F, S', hc, ((rp.grow gg).grow g').wipe vs, dx, fun ρ2 σ2 h2 r2 w2 => ⟨by rw [w2 vs his, wipe_wipe], ?_⟩⟩
    refine ht ρ2 σ2 H' S' _ _ h2 r2 fun b H3 S3 h3 g3 => ?_
    have g03 : Grow H0 S0 H3 S3 := (gg.trans g').trans g3
    have sD : S' D0 = none := by rw [g'.nw D0 (by rw [hH]; intro z; cases z)]; exact hS
    have hD' : H' D0 = some (.lst ws) := g'.hh.lst hH
    have sD3 : S3 D0 = none := by rw [g3.nw D0 (by rw [hD']; intro z; cases z)]; exact sD
    have hD3 : H3 D0 = some (.lst ws) := g3.hh.lst hD'
    cases b with
    | false => exact iteF ⟨rfl, hlt, S3, acc, ws, g03, (ss.trans g'.ss).trans g3.ss, hD3, sD3, Dats.mono g3.ss _ _ (Dats.mono g'.ss _ _ hd), h3⟩
    | true =>
      refine iteT ⟨X0, ρ2, _, F, S3, h3, r2.grow g3, exOk0, fun y v H4 S4 h4 g4 d4 => ?_⟩
      have sD4 : S4 D0 = none := by rw [g4.nw D0 (by rw [hD3]; intro z; cases z)]; exact sD3
      have hD4 : H4 D0 = some (.lst ws) := g4.hh.lst hD3
      have hd4 : Dats S4 acc ws := Dats.mono g4.ss _ _ (Dats.mono g3.ss _ _ (Dats.mono g'.ss _ _ hd))
      have g04 : Grow H0 S0 H4 S4 := g03.trans g4
      refine ⟨ws, hD4, by rw [hd4.len]; exact h4.1, rfl, hlt, S4, acc ++ [y], ws ++ [v], ⟨g04.hh.over hD0 hD4 (fun _ z => by cases z) (fun _ z => by cases z), g04.ss, fun b o e => ?_, g04.nw⟩, ((ss.trans g'.ss).trans g3.ss).trans g4.ss, upd_same, sD4, hd4.app (.one d4), h4.2⟩
      · rw [upd_ne (ne_of_none e sD4)]
        exact g04.sh b o e
  · have e : i = ds.length := by omega
    subst e
    rw [List.drop_length] at hc
    exact .inl ⟨(hJ _ H S ss gg.sh).2 (Nat.le_refl _), k acc ws H S hc gg hD0 hS hH hd⟩
variable {elt iter : Expr} {scope : Scope} {own : List (Str × Nat)} {vs : List Nat} {wi : WL} {g : WG} {is : List Nat} {we : WE} {wt : WT} {c : Expr}
def wtYes : WT := fun _ _ Q => Q true
theorem df_lc (hc : X.calm = true) (hN : X.N.Nodup) (hi : ID X E tg iter wi) (ok : BlkOk X.N X.env.scope scope own)
    (hg : ∀ (s : Shared) (H : Hp) (C : Addr) (cl : List (Str × Addr)) (fp : List Addr), GD (X.blk s H scope (compEnvC scope cl C X.env) fp) tg is g)
    (he : ∀ (s : Shared) (H : Hp) (C : Addr) (cl : List (Str × Addr)) (fp : List Addr), ED (X.blk s H scope (compEnvC scope cl C X.env) fp) E0 elt we)
    (hvs : own.map (·.2) = vs := by rfl) (his : ∀ i ∈ is, i ∈ vs := by decide) (hs : ∀ x, foldedSetIterable iter X.env x = pure x := by intro _; rfl) :
    DF X E (.ListComp elt [⟨tg, iter, [], 0⟩] scope pos) (wLc wi g wtYes we vs) := by
  subst hvs
  obtain ⟨ti, pti, s⟩ := hi.ex
  refine ⟨_, pe_lc (g := canG g is) (tt := tYes) (te := canE X.mg E0 we) hc hN pti ok (fun s H C cl fp => (hg s H C cl fp).can) (fun _ _ _ _ _ => pts_nil) (fun s H C cl fp => (he s H C cl fp).can) hs, fun x ρ Q hw F σ H S Q' rp ex k => ?_⟩
  refine s x ρ _ hw F σ H S _ rp ex fun ds J H1 S1 q1 g1 hJ D0 hD => ?_
  exact lc_sound his rp g1 hJ hD q1 (fun ρ2 σ2 H S R R' h r k => k true H S h (.refl r.sh)) fun xs ws H' S' q g h0 h1 h2 hd => k xs D0 ws H' S' q g h0 h1 h2 hd
theorem df_lcIf (hc : X.calm = true) (hN : X.N.Nodup) (hi : ID X E tg iter wi) (ok : BlkOk X.N X.env.scope scope own)
    (hg : ∀ (s : Shared) (H : Hp) (C : Addr) (cl : List (Str × Addr)) (fp : List Addr), GD (X.blk s H scope (compEnvC scope cl C X.env) fp) tg is g)
    (ht : ∀ (s : Shared) (H : Hp) (C : Addr) (cl : List (Str × Addr)) (fp : List Addr), TD (X.blk s H scope (compEnvC scope cl C X.env) fp) E0 c wt)
    (he : ∀ (s : Shared) (H : Hp) (C : Addr) (cl : List (Str × Addr)) (fp : List Addr), ED (X.blk s H scope (compEnvC scope cl C X.env) fp) E0 elt we)
    (hvs : own.map (·.2) = vs := by rfl) (his : ∀ i ∈ is, i ∈ vs := by decide) (hs : ∀ x, foldedSetIterable iter X.env x = pure x := by intro _; rfl) :
    DF X E (.ListComp elt [⟨tg, iter, [c], 0⟩] scope pos) (wLc wi g wt we vs) := by
  subst hvs
  obtain ⟨ti, pti, s⟩ := hi.ex
  refine ⟨_, pe_lc (g := canG g is) (tt := canT X.mg E0 wt) (te := canE X.mg E0 we) hc hN pti ok (fun s H C cl fp => (hg s H C cl fp).can) (fun s H C cl fp => pts_one (ht s H C cl fp).can) (fun s H C cl fp => (he s H C cl fp).can) hs, fun x ρ Q hw F σ H S Q' rp ex k => ?_⟩
  refine s x ρ _ hw F σ H S _ rp ex fun ds J H1 S1 q1 g1 hJ D0 hD => ?_
  exact lc_sound his rp g1 hJ hD q1 (fun ρ2 σ2 H S R R' h r k => ⟨X0, ρ2, R, F, S, h, r, exOk0, k⟩) fun xs ws H' S' q g h0 h1 h2 hd => k xs D0 ws H' S' q g h0 h1 h2 hd
end
end NL

namespace NL
open PySem PySem.Spec L2
open PyProof.Rows hiding St
variable [KC]

structure DEnds where
  nx : Ev → Prop
  rt : Rt → Ev → Prop
  bk : Ev → Prop := fun _ => False
  ct : Ev → Prop := fun _ => False
  ex : XS
abbrev WS := DEnds → Ev → Prop
structure EndsOk (mg : Str → Option Value) (E : XK) (F : Fr) (q : DEnds) (D : Ends) : Prop where
  nx : ∀ ρ σ H S, q.nx ρ → Rep F ρ σ H S → D.nx σ H
  rt : ∀ r ρ v σ H S, q.rt r ρ → Rep F ρ σ H S → RtP F.H0 H S r v → D.rt v H
  bk : ∀ ρ σ H S, q.bk ρ → Rep F ρ σ H S → D.bk σ H
  ct : ∀ ρ σ H S, q.ct ρ → Rep F ρ σ H S → D.ct σ H
  ex : ∀ n C H S, q.ex n → mg n = some (.ref C) → FGrow F H S → E (.ref C) none H
theorem EndsOk.exOk {mg : Str → Option Value} {E : XK} {F : Fr} {q : DEnds} {D : Ends} {ρ : Ev} {σ : L2.St} {H S : Hp} (o : EndsOk mg E F q D) (r : Rep F ρ σ H S) : ExOk mg E q.ex H S :=
  fun n C H' S' h1 h2 g => o.ex n C H' S' h1 h2 (r.fg.grow g)
structure SD (X : Cx) (E : XK) (st : Stmt) (w : WS) : Prop where
  ex : ∃ t, PS X st t ∧ ∀ (q : DEnds) (ρ : Ev), w q ρ → ∀ (F : Fr) (σ : L2.St) (H S : Hp) (D : Ends), Rep F ρ σ H S → EndsOk X.mg E F q D → t D σ H
structure SDs (X : Cx) (E : XK) (st : List Stmt) (w : WS) : Prop where
  ex : ∃ t, PSs X st t ∧ ∀ (q : DEnds) (ρ : Ev), w q ρ → ∀ (F : Fr) (σ : L2.St) (H S : Hp) (D : Ends), Rep F ρ σ H S → EndsOk X.mg E F q D → t D σ H

section
variable {X : Cx} {E : XK} {st : Stmt} {sts : List Stmt} {e a b : Expr} {pos : Pos} {w wa wb we : WE} {wt : WT} {ws wu : WS} {wl : WL}
def wsNil  : WS := fun q ρ => q.nx ρ
theorem sds_nil : SDs X E [] wsNil := ⟨_, pss_nil, fun q ρ hw F σ H S D rp o => o.nx ρ σ H S hw rp⟩
def wSeqS (w1 w2 : WS) : WS := fun q ρ => w1 { q with nx := w2 q } ρ
theorem sds_cons (h1 : SD X E st ws) (h2 : SDs X E sts wu) : SDs X E (st :: sts) (wSeqS ws wu) := by
  obtain ⟨t, p, s⟩ := h1.ex
  obtain ⟨t', p', s'⟩ := h2.ex
  refine ⟨_, pss_cons p p', fun q ρ hw F σ H S D rp o => ?_⟩
  exact s _ ρ hw F σ H S _ rp ⟨fun ρ1 σ1 H1 S1 q1 r1 => s' q ρ1 q1 F σ1 H1 S1 D r1 o, o.rt, o.bk, o.ct, o.ex⟩
theorem sds_one (h1 : SD X E st ws) : SDs X E [st] ws := by
  obtain ⟨t, p, s⟩ := h1.ex
  exact ⟨_, pss_one p, s⟩
/-- from here on the slot's own thing is shared -/
def wFrz (i : Nat) (w : WS) : WS := fun q ρ => match ρ[i]? with
  | some (.own false c) => w q (ρ.set i (.fz c.d))
  | some (.fz _) => w q ρ
  | _ => False
theorem sds_frz (i : Nat) (h : SDs X E sts ws) : SDs X E sts (wFrz i ws) := by
  obtain ⟨t, p, s⟩ := h.ex
  refine ⟨t, p, fun q ρ hw F σ H S D rp o => ?_⟩
  unfold wFrz at hw
  split at hw
  · rename_i c hi
    obtain ⟨S', r'⟩ := rp.frz hi
    exact s q _ hw F σ H S' D r' o
  · exact s q ρ hw F σ H S D rp o
  · exact hw.elim
theorem sd_pass : SD X E (.Pass pos) wsNil := ⟨_, ps_pass, fun q ρ hw F σ H S D rp o => o.nx ρ σ H S hw rp⟩
def wsBrk  : WS := fun q ρ => q.bk ρ
theorem sd_break : SD X E (.Break pos) wsBrk := ⟨_, ps_break, fun q ρ hw F σ H S D rp o => o.bk ρ σ H S hw rp⟩
def wsCnt  : WS := fun q ρ => q.ct ρ
theorem sd_continue : SD X E (.Continue pos) wsCnt := ⟨_, ps_continue, fun q ρ hw F σ H S D rp o => o.ct ρ σ H S hw rp⟩
def wsExpr (w : WE) : WS := fun q ρ => w q.ex ρ fun _ => q.nx ρ
theorem sd_expr (he : ED X E e w) (hs : swapsWith e none pos.line X.env = pure false := by rfl) : SD X E (.Expr e pos) (wsExpr w) := by
  obtain ⟨t, p, s⟩ := he.ex
  refine ⟨_, ps_expr p hs, fun q ρ hw F σ H S D rp o => ?_⟩
  exact s q.ex ρ _ hw F σ H S _ rp (o.exOk rp) fun d v H1 S1 q1 g1 h1 => o.nx ρ σ H1 S1 q1 (rp.grow g1)
def wsRet (w : WE) : WS := fun q ρ => w q.ex ρ fun d => q.rt (.val d) ρ
theorem sd_ret (he : ED X E e w) : SD X E (.Return (some e) pos) (wsRet w) := by
  obtain ⟨t, p, s⟩ := he.ex
  refine ⟨_, ps_ret p, fun q ρ hw F σ H S D rp o => ?_⟩
  exact s q.ex ρ _ hw F σ H S _ rp (o.exOk rp) fun d v H1 S1 q1 g1 h1 => o.rt _ ρ v σ H1 S1 q1 (rp.grow g1) h1
theorem fg_free {F : Fr} {H S : Hp} (f : FGrow F H S) {p : Addr} (h : H p = none) : F.H0 p = none := by
  cases q : F.H0 p with
  | none => rfl
  | some o => exact absurd h (f.al p (by rw [q]; intro z; cases z))
def wsRetF (wl : WL) : WS := fun q ρ => wl q.ex ρ fun xs => q.rt (.new (.lst xs)) ρ
theorem sd_retF (he : DF X E e wl) : SD X E (.Return (some e) pos) (wsRetF wl) := by
  obtain ⟨t, p, s⟩ := he.ex
  refine ⟨_, ps_ret p, fun q ρ hw F σ H S D rp o => ?_⟩
  exact s q.ex ρ _ hw F σ H S _ rp (o.exOk rp) fun xs p vs H1 S1 q1 g1 h0 h1 h2 hd => o.rt _ ρ _ σ H1 S1 q1 (rp.grow g1) ⟨p, _, rfl, fg_free rp.fg h0, h1, h2, vs, rfl, hd⟩
def wsRetOwn (i : Nat) : WS := fun q ρ => match ρ[i]? with
  | some (.own false c) => q.rt (.new c) ρ
  | _ => False
theorem sd_retOwn (i : Nat) {x : Str} {p : Pos} (hN : X.N[i]? = some x := by rfl) (hv : Vis X.env.scope x := by first | exact Or.inl rfl | exact Or.inr (Or.inl rfl) | exact Or.inr (Or.inr rfl)) (hd : (x == ("__debug__" : Str)) = false := by decide)
    (hcd : (x == ("__classdict__" : Str)) = false := by decide) : SD X E (.Return (some (.Name x p)) pos) (wsRetOwn i) := by
  refine ⟨_, ps_ret (pe_var hN hv hd hcd), fun q ρ hw F σ H S D rp o => ?_⟩
  unfold wsRetOwn at hw
  split at hw
  · rename_i c hi
    obtain ⟨p, u, e, h1, h2, h3, _, h4⟩ := rp.own hi
    exact ⟨.ref p, e, o.rt _ ρ _ σ H S hw rp ⟨p, u, rfl, h4 rfl, h1, h2, h3⟩⟩
  · exact hw.elim
def wsRetN  : WS := fun q ρ => q.rt (.val .non) ρ
theorem sd_retN : SD X E (.Return none pos) wsRetN := ⟨_, ps_retN, fun q ρ hw F σ H S D rp o => o.rt _ ρ V.non σ H S hw rp (show Dat S .non .non from .n)⟩
def wIfS (wt : WT) (ws wu : WS) : WS := fun q ρ => wt q.ex ρ fun b => Br b (ws q ρ) (wu q ρ) ⟨⟩ ⟨⟩
theorem sd_if {c : Expr} {p1 p2 : List Stmt} (hc : TD X E c wt) (ha : SDs X E p1 ws) (hb : SDs X E p2 wu) : SD X E (.If c p1 p2 pos) (wIfS wt ws wu) := by
  obtain ⟨t, p, s⟩ := hc.ex
  obtain ⟨ta, pa, sa⟩ := ha.ex
  obtain ⟨tb, pb, sb⟩ := hb.ex
  refine ⟨_, ps_if p pa pb, fun q ρ hw F σ H S D rp o => ?_⟩
  refine s q.ex ρ _ hw F σ H S _ rp (o.exOk rp) fun b H1 S1 q1 g1 => ?_
  cases b with
  | true => exact iteT (sa q ρ q1 F σ H1 S1 D (rp.grow g1) o)
  | false => exact iteF (sb q ρ q1 F σ H1 S1 D (rp.grow g1) o)

/-! ### stores -/
def locX (X : Cx) (x : Str) : Prop := Loc X.env.scope x ∧ (X.fn x = true ∨ X.env.scope.names.lookup x = some .local)
def wsSet (i : Nat) (w : WE) : WS := fun q ρ => w q.ex ρ fun d => q.nx (ρ.set i (.fz d))
theorem sd_set (i : Nat) {x : Str} {p : Pos} (hN : X.N.Nodup) (he : ED X E e w) (hi : X.N[i]? = some x := by rfl) (hx : Loc X.env.scope x := by first | exact Or.inl rfl | exact Or.inr rfl) (hs : swapsWith e (some (.Name x p)) pos.line X.env = pure false := by rfl)
    (hf : X.fn x = true ∨ X.env.scope.names.lookup x = some .local := by first | exact .inl rfl | exact .inr rfl) : SD X E (.Assign [.Name x p] e pos) (wsSet i w) := by
  obtain ⟨t, pe, s⟩ := he.ex
  refine ⟨_, ps_set hN hi hx pe hs hf, fun q ρ hw F σ H S D rp o => ?_⟩
  exact s q.ex ρ _ hw F σ H S _ rp (o.exOk rp) fun d v H1 S1 q1 g1 h1 => o.nx _ _ H1 S1 q1 ((rp.grow g1).set h1)
theorem own_ne {F : Fr} {ρ : Ev} {σ : L2.St} {H S : Hp} (rp : Rep F ρ σ H S) {p : Addr} (h0 : H p = none) (j : Nat) (m : Bool) (c : Cn) (h : ρ[j]? = some (.own m c)) : σ[j]? ≠ some (some (.ref p)) := fun z => by
  obtain ⟨p', o, e, _, h2, _⟩ := rp.own h
  rw [e] at z
  cases z
  rw [h0] at h2
  cases h2
def wsSetF (i : Nat) (wl : WL) : WS := fun q ρ => wl q.ex ρ fun xs => q.nx (ρ.set i (.own false (.lst xs)))
theorem sd_setF (i : Nat) {x : Str} {p : Pos} (hN : X.N.Nodup) (he : DF X E e wl) (hi : X.N[i]? = some x := by rfl) (hx : Loc X.env.scope x := by first | exact Or.inl rfl | exact Or.inr rfl) (hs : swapsWith e (some (.Name x p)) pos.line X.env = pure false := by rfl)
    (hf : X.fn x = true ∨ X.env.scope.names.lookup x = some .local := by first | exact .inl rfl | exact .inr rfl) : SD X E (.Assign [.Name x p] e pos) (wsSetF i wl) := by
  obtain ⟨t, pe, s⟩ := he.ex
  refine ⟨_, ps_set hN hi hx pe hs hf, fun q ρ hw F σ H S D rp o => ?_⟩
  exact s q.ex ρ _ hw F σ H S _ rp (o.exOk rp) fun xs p vs H1 S1 q1 g1 h0 h1 h2 hd => o.nx _ _ H1 S1 q1 ((rp.grow g1).setOwn h1 h2 ⟨vs, rfl, hd⟩ (fg_free rp.fg h0) (own_ne rp h0))
/-- name = [.. for ..] -/
theorem sd_setLc (i : Nat) {y : Str} {py spos : Pos} {elt tg iter : Expr} {scope : Scope} {own : List (Str × Nat)} {vs : List Nat} {wi : WL} {g : WG} {is : List Nat} (hc : X.calm = true) (hN : X.N.Nodup) (hi : ID X E tg iter wi) (ok : BlkOk X.N X.env.scope scope own)
    (hg : ∀ (s : Shared) (H : Hp) (C : Addr) (cl : List (Str × Addr)) (fp : List Addr), GD (X.blk s H scope (compEnvC scope cl C X.env) fp) tg is g)
    (he : ∀ (s : Shared) (H : Hp) (C : Addr) (cl : List (Str × Addr)) (fp : List Addr), ED (X.blk s H scope (compEnvC scope cl C X.env) fp) E0 elt we)
    (hy : X.N[i]? = some y := by rfl) (hyl : X.env.scope.names.lookup y = some .local := by rfl) (hsw : swapsWith (.ListComp elt [⟨tg, iter, [], 0⟩] scope pos) (some (.Name y py)) spos.line X.env = pure true := by exact sw_true rfl rfl rfl (by decide +kernel))
    (hvs : own.map (·.2) = vs := by rfl) (his : ∀ i ∈ is, i ∈ vs := by decide) (hs : ∀ x, foldedSetIterable iter X.env x = pure x := by intro _; rfl) :
    SD X E (.Assign [.Name y py] (.ListComp elt [⟨tg, iter, [], 0⟩] scope pos) spos) (wsSetF i (wLc wi g wtYes we vs)) := by
  subst hvs
  obtain ⟨ti, pti, s⟩ := hi.ex
  refine ⟨_, ps_setLc (i := i) (g := canG g is) (tt := tYes) (te := canE X.mg E0 we) hc hN hy hyl hsw pti ok (fun s H C cl fp => (hg s H C cl fp).can) (fun _ _ _ _ _ => pts_nil) (fun s H C cl fp => (he s H C cl fp).can) hs, fun q ρ hw F σ H S D rp o => ?_⟩
  refine s q.ex ρ _ hw F σ H S _ rp (o.exOk rp) fun ds J H1 S1 q1 g1 hJ D0 hD => ?_
  exact lc_sound (Q' := fun x H1 => gName i x σ H1 D.nx) his rp g1 hJ hD q1 (fun ρ2 σ2 H S R R' h r k => k true H S h (.refl r.sh)) fun xs vs H' S' q' g h0 h1 h2 hd =>
    o.nx _ _ H' S' q' ((rp.grow g).setOwn h1 h2 ⟨vs, rfl, hd⟩ (fg_free rp.fg h0) (own_ne rp h0))
theorem sd_setLcIf (i : Nat) {y : Str} {py spos : Pos} {elt tg iter c : Expr} {scope : Scope} {own : List (Str × Nat)} {vs : List Nat} {wi : WL} {g : WG} {is : List Nat} (hc : X.calm = true) (hN : X.N.Nodup) (hi : ID X E tg iter wi) (ok : BlkOk X.N X.env.scope scope own)
    (hg : ∀ (s : Shared) (H : Hp) (C : Addr) (cl : List (Str × Addr)) (fp : List Addr), GD (X.blk s H scope (compEnvC scope cl C X.env) fp) tg is g)
    (ht : ∀ (s : Shared) (H : Hp) (C : Addr) (cl : List (Str × Addr)) (fp : List Addr), TD (X.blk s H scope (compEnvC scope cl C X.env) fp) E0 c wt)
    (he : ∀ (s : Shared) (H : Hp) (C : Addr) (cl : List (Str × Addr)) (fp : List Addr), ED (X.blk s H scope (compEnvC scope cl C X.env) fp) E0 elt we)
    (hy : X.N[i]? = some y := by rfl) (hyl : X.env.scope.names.lookup y = some .local := by rfl) (hsw : swapsWith (.ListComp elt [⟨tg, iter, [c], 0⟩] scope pos) (some (.Name y py)) spos.line X.env = pure true := by exact sw_true rfl rfl rfl (by decide +kernel))
    (hvs : own.map (·.2) = vs := by rfl) (his : ∀ i ∈ is, i ∈ vs := by decide) (hs : ∀ x, foldedSetIterable iter X.env x = pure x := by intro _; rfl) :
    SD X E (.Assign [.Name y py] (.ListComp elt [⟨tg, iter, [c], 0⟩] scope pos) spos) (wsSetF i (wLc wi g wt we vs)) := by
  subst hvs
  obtain ⟨ti, pti, s⟩ := hi.ex
  refine ⟨_, ps_setLc (i := i) (g := canG g is) (tt := canT X.mg E0 wt) (te := canE X.mg E0 we) hc hN hy hyl hsw pti ok (fun s H C cl fp => (hg s H C cl fp).can) (fun s H C cl fp => pts_one (ht s H C cl fp).can) (fun s H C cl fp => (he s H C cl fp).can) hs, fun q ρ hw F σ H S D rp o => ?_⟩
  refine s q.ex ρ _ hw F σ H S _ rp (o.exOk rp) fun ds J H1 S1 q1 g1 hJ D0 hD => ?_
  exact lc_sound (Q' := fun x H1 => gName i x σ H1 D.nx) his rp g1 hJ hD q1 (fun ρ2 σ2 H S R R' h r k => ⟨X0, ρ2, R, F, S, h, r, exOk0, k⟩) fun xs vs H' S' q' g h0 h1 h2 hd =>
    o.nx _ _ H' S' q' ((rp.grow g).setOwn h1 h2 ⟨vs, rfl, hd⟩ (fg_free rp.fg h0) (own_ne rp h0))
/-- a target of several names -/
def wsAsg (w : WE) (g : WG) : WS := fun q ρ => w q.ex ρ fun d => g d ρ q.nx
theorem sd_asg {tg : Expr} {is : List Nat} {g : WG} (he : ED X E e w) (hg : GD X tg is g) (hs : swapsWithSole [tg] e pos.line X.env = pure false := by rfl) (hw : swappedStores [tg] e X.env = pure none := by rfl)
    (h1 : (assignEach [tg] X.env).map (·.2) = [assign tg X.env] := by rfl) : SD X E (.Assign [tg] e pos) (wsAsg w g) := by
  obtain ⟨t, pe, s⟩ := he.ex
  obtain ⟨tg, pg, sg⟩ := hg.ex
  refine ⟨_, ps_asg pe pg hs hw h1, fun q ρ hw F σ H S D rp o => ?_⟩
  refine s q.ex ρ _ hw F σ H S _ rp (o.exOk rp) fun d v H1 S1 q1 g1 h1 => ?_
  exact sg d ρ _ q1 F σ H1 S1 v _ (rp.grow g1) h1 fun ρ' σ' q2 r2 _ => o.nx _ _ H1 S1 q2 r2
/-- a, b = x, y -/
def wsPar (i j : Nat) (wa wb : WE) : WS := fun q ρ => wa q.ex ρ fun d => wb q.ex ρ fun d' => q.nx ((ρ.set i (.fz d)).set j (.fz d'))
theorem sd_par (i j : Nat) {x y : Str} {wb : WE} {px py pt : Pos} {kt k2 pt2} (hc : X.calm = true) (hN : X.N.Nodup) (ha : ED X E a wa) (hb : ED X E b wb) (hi : X.N[i]? = some x := by rfl) (hj : X.N[j]? = some y := by rfl) (hij : i ≠ j := by decide)
    (hx : X.env.scope.names.lookup x = some .local := by rfl) (hy : X.env.scope.names.lookup y = some .local := by rfl)
    (hw : swappedStores [.Tuple [.Name x px, .Name y py] kt pt] (.Tuple [a, b] k2 pt2) X.env = pure (some [x, y]) := by rfl)
    (hs : swapsWithSole [.Tuple [.Name x px, .Name y py] kt pt] (.Tuple [a, b] k2 pt2) pos.line X.env = pure false := by rfl)
    (he2 : starEach (b :: []) X.env = (false, eval b X.env) :: starEach [] X.env := by rfl) (he : starEach (a :: [b]) X.env = (false, eval a X.env) :: starEach [b] X.env := by rfl) :
    SD X E (.Assign [.Tuple [.Name x px, .Name y py] kt pt] (.Tuple [a, b] k2 pt2) pos) (wsPar i j wa wb) := by
  obtain ⟨t, pt, s⟩ := (ad_cons ha (ad_cons hb ad_nil he2) he).ex
  refine ⟨_, ps_par hc hN hi hj hij hx hy pt hw hs, fun q ρ hw F σ H S D rp o => ?_⟩
  refine s q.ex ρ (fun ds => match ds with
    | [d, d'] => q.nx ((ρ.set i (.fz d)).set j (.fz d'))
    | _ => False) hw F σ H S _ rp (o.exOk rp) fun ds vs H1 S1 q1 g1 h1 => ?_
  split at q1
  · unfold Dats Dats Dats at h1
    obtain ⟨v, _, rfl, d1, v', _, rfl, d2, rfl⟩ := h1
    exact ⟨v, v', rfl, o.nx _ _ H1 S1 q1 (((rp.grow g1).set d1).set d2)⟩
  · exact q1.elim
/-- name op= e -/
structure PipD (X : Cx) (op : Operator) (g : D → D → (D → Prop) → Prop) : Prop where
  ex : ∃ r : TIp, PIp X op r ∧ ∀ (d e : D) (Q : D → Prop), g d e Q → ∀ (H S : Hp) (u v : V) (Q' : VK), Same S H → Dat S d u → Dat S e v → (∀ z y, Q z → Dat S z y → Q' y H) → r u v H Q'
theorem pipAdd : PipD X .Add (gInt0 fun i j => i + j) := by
  refine ⟨_, ip_add, fun d e Q h H S u v Q' sh hd he k => ?_⟩
  unfold gInt0 at h
  split at h
  · unfold Dat at hd he
    exact ⟨_, _, hd, he, k _ _ h .i⟩
  · exact h.elim
theorem pipMul : PipD X .Mult (gInt CMulW fun i j => i * j) := by
  refine ⟨rI CMulW fun i j => .int (i * j), ?_, fun d e Q h H S u v Q' sh hd he k => ?_⟩
  · intro pins s σ H x y v u Q I r1 r2 h
    have o : OpR X (inplaceOp .Mult) (rI CMulW fun i j => .int (i * j)) := opI fun _ _ _ _ _ _ _ hc q => imul_int q hc.ok
    exact o pins s σ H x y v u Q I r1 r2 h
  · unfold gInt at h
    split at h
    · unfold Dat at hd he
      exact ⟨_, _, hd, he, h.1, k _ _ h.2 .i⟩
    · exact h.elim
def wsAug (i : Nat) (g : D → D → (D → Prop) → Prop) (w : WE) : WS := fun q ρ => match ρ[i]? with
  | some (.fz d) => w q.ex ρ fun d' => g d d' fun z => q.nx (ρ.set i (.fz z))
  | _ => False
theorem sd_aug (i : Nat) {x : Str} {p : Pos} {op : Operator} {g : D → D → (D → Prop) → Prop} (hN : X.N.Nodup) (ho : PipD X op g) (he : ED X E e w) (hi : X.N[i]? = some x := by rfl) (hx : Loc X.env.scope x := by first | exact Or.inl rfl | exact Or.inr rfl)
    (hf : X.fn x = true ∨ X.env.scope.names.lookup x = some .local := by first | exact .inl rfl | exact .inr rfl) : SD X E (.AugAssign (.Name x p) op e pos) (wsAug i g w) := by
  obtain ⟨t, pe, s⟩ := he.ex
  obtain ⟨r, pi, si⟩ := ho.ex
  refine ⟨_, ps_aug hN hi hx pe pi hf, fun q ρ hw F σ H S D rp o => ?_⟩
  unfold wsAug at hw
  split at hw
  · rename_i d hi
    obtain ⟨v, e, hd⟩ := rp.fz hi
    refine ⟨v, e, s q.ex ρ _ hw F σ H S _ rp (o.exOk rp) fun d' v' H1 S1 q1 g1 h1 => ?_⟩
    exact si d d' _ q1 H1 S1 v v' _ g1.sh (Dat.mono g1.ss _ _ hd) h1 fun z y q2 h2 => o.nx _ _ H1 S1 q2 ((rp.grow g1).set h2)
  · exact hw.elim

/-! ### methods that change a slot's own list -/
structure MutD (X : Cx) (id : String) (g : List D → List D → (List D → Prop) → Prop) : Prop where
  ex : ∃ r : V → List V → Hp → VK → Prop, MtR X id r ∧ ∀ (xs ds : List D) (Q : List D → Prop), g xs ds Q → ∀ (H S : Hp) (l : Addr) (us vs : List V) (Q' : VK), Same S H → H l = some (.lst us) → Dats S xs us → Dats S ds vs →
    (∀ ys ws v, Q ys → Dats S ys ws → Q' v (upd H l (.lst ws))) → r (.ref l) vs H Q'
def gApp : List D → List D → (List D → Prop) → Prop
  | xs, [d], Q => xs.length < sizeLine ∧ Q (xs ++ [d])
  | _, _, _ => False
theorem dats1 {S : Hp} {d : D} {vs : List V} (h : Dats S [d] vs) : ∃ v, vs = [v] ∧ Dat S d v := by
  unfold Dats Dats at h
  obtain ⟨v, _, rfl, h, rfl⟩ := h
  exact ⟨v, rfl, h⟩
theorem mApp : MutD X "list.append" gApp := by
  refine ⟨_, mt_append, fun xs ds Q h H S l us vs Q' sh hl hu hd k => ?_⟩
  unfold gApp at h
  split at h
  · obtain ⟨v, rfl, hv⟩ := dats1 hd
    exact ⟨l, us, v, rfl, rfl, hl, by rw [hu.len]; exact h.1, k _ _ _ h.2 (hu.app (.one hv))⟩
  · exact h.elim
def gExt : List D → List D → (List D → Prop) → Prop
  | xs, [.lst ys], Q => xs.length + ys.length ≤ sizeLine ∧ Q (xs ++ ys)
  | _, _, _ => False
theorem mExt : MutD X "list.extend" gExt := by
  refine ⟨_, mt_extend, fun xs ds Q h H S l us vs Q' sh hl hu hd k => ?_⟩
  unfold gExt at h
  split at h
  · obtain ⟨v, rfl, hv⟩ := dats1 hd
    unfold Dat at hv
    obtain ⟨b, ws, rfl, r, z⟩ := hv
    exact ⟨l, b, us, ws, rfl, rfl, hl, sh _ _ r, by rw [hu.len, z.len]; exact h.1, k _ _ _ h.2 (hu.app z)⟩
  · exact h.elim
def gPop0 : List D → List D → (List D → Prop) → Prop
  | xs, [], Q => xs ≠ [] ∧ Q xs.dropLast
  | _, _, _ => False
theorem mPop : MutD X "list.pop" gPop0 := by
  refine ⟨_, mt_pop, fun xs ds Q h H S l us vs Q' sh hl hu hd k => ?_⟩
  unfold gPop0 at h
  split at h
  · unfold Dats at hd
    subst hd
    have hlen := hu.len
    have hpos : 0 < us.length := by
      rw [hlen]
      exact List.length_pos_iff.mpr h.1
    exact ⟨l, us, us[us.length - 1], rfl, rfl, hl, List.getElem?_eq_getElem (by omega), k _ _ _ h.2 hu.dropLast⟩
  · exact h.elim
def gRev : List D → List D → (List D → Prop) → Prop
  | xs, [], Q => Q xs.reverse
  | _, _, _ => False
theorem mRev : MutD X "list.reverse" gRev := by
  refine ⟨_, mt_reverse, fun xs ds Q h H S l us vs Q' sh hl hu hd k => ?_⟩
  unfold gRev at h
  split at h
  · unfold Dats at hd
    subst hd
    exact ⟨l, us, rfl, rfl, hl, k _ _ _ h hu.rev⟩
  · exact h.elim
variable {T name id : String} {es : List Expr} {apos mpos : Pos} {p : Pos} {x : Str}
def wMut (i : Nat) (g : List D → List D → (List D → Prop) → Prop) (wl : WL) : WS := fun q ρ => match ρ[i]? with
  | some (.own m (.lst xs)) => wl q.ex ρ fun ds => g xs ds fun ys => q.nx (ρ.set i (.own m (.lst ys)))
  | _ => False
theorem mut_sound {i : Nat} {g : List D → List D → (List D → Prop) → Prop} {r : V → List V → Hp → VK → Prop} {t : TA}
    (so : ∀ (xs ds : List D) (Q : List D → Prop), g xs ds Q → ∀ (H S : Hp) (l : Addr) (us vs : List V) (Q' : VK), Same S H → H l = some (.lst us) → Dats S xs us → Dats S ds vs →
      (∀ ys ws v, Q ys → Dats S ys ws → Q' v (upd H l (.lst ws))) → r (.ref l) vs H Q')
    (s : ∀ (x : XS) (ρ : Ev) (Q : List D → Prop), wl x ρ Q → ∀ (F : Fr) (σ : L2.St) (H S : Hp) (Q' : List V → Hp → Prop), Rep F ρ σ H S → ExOk X.mg E x H S →
      (∀ ds vs H' S', Q ds → Grow H S H' S' → Dats S' ds vs → Q' vs H') → t σ H Q')
    (q : DEnds) (ρ : Ev) (hw : wMut i g wl q ρ) (F : Fr) (σ : L2.St) (H S : Hp) (D : Ends) (rp : Rep F ρ σ H S) (o : EndsOk X.mg E F q D) : tDrop (tBM X.K "list" r (tVar i) t) D σ H := by
  unfold wMut at hw
  split at hw
  · rename_i m xs hi
    obtain ⟨l, u, e, h1, h2, ⟨us, rfl, h3⟩, _⟩ := rp.own hi
    refine ⟨.ref l, e, .inl ⟨rfl, _, .of h2⟩, ?_⟩
    refine s q.ex ρ _ hw F σ H S _ rp (o.exOk rp) fun ds vs H1 S1 q1 g1 hd => ?_
    refine so xs ds _ q1 H1 S1 l us vs _ g1.sh (g1.hh.lst h2) (Dats.mono g1.ss _ _ h3) hd fun ys ws v q2 hy => ?_
    exact o.nx _ _ _ S1 q2 ((rp.grow g1).put (o' := .lst ws) hi e ⟨ws, rfl, hy⟩)
  · exact hw.elim
theorem sd_mut (i : Nat) {g : List D → List D → (List D → Prop) → Prop} (hm : MutD X id g) (slot : Slot "list" name id) (hty : typeOf (.builtin id) = pure (.type "method_descriptor")) (ha : AD X E (e :: es) wl)
    (hN : X.N[i]? = some x := by rfl) (hv : Vis X.env.scope x := by first | exact Or.inl rfl | exact Or.inr (Or.inl rfl) | exact Or.inr (Or.inr rfl)) (hd : (x == ("__debug__" : Str)) = false := by decide) (hcd : (x == ("__classdict__" : Str)) = false := by decide)
    (hbase : attributeBase (.Name x p) name X.env (eval (.Name x p) X.env) = eval (.Name x p) X.env := by rfl)
    (hfew : ((backTo mpos (starEach (e :: es) X.env)).all (fun x => !x.1) && (backToKw mpos (keywordEach [] X.env)).all (fun x => x.1.isSome)
      && decide ((e :: es).length + ([] : List Keyword).length + (if ([] : List Keyword).isEmpty then 0 else 1) < 30)) = true := by rfl)
    (hline : (apos.endLine == mpos.line) = true := by rfl) (hst : starEach (e :: es) X.env = (false, eval e X.env) :: starEach es X.env := by rfl) (hplain : (backTo mpos (starEach es X.env)).any (·.1) = false := by rfl)
    (hs : swapsWith (.Call (.Attribute (.Name x p) name apos) (e :: es) [] mpos) none pos.line X.env = pure false := by rfl) :
    SD X E (.Expr (.Call (.Attribute (.Name x p) name apos) (e :: es) [] mpos) pos) (wMut i g wl) := by
  obtain ⟨r, mr, so⟩ := hm.ex
  obtain ⟨t, pt, s⟩ := ha.ex
  exact ⟨_, ps_expr (pe_bm PySem.F.plainAttrs_list slot hty mr (pe_var hN hv hd hcd) pt hbase hfew hline hst hplain) hs, mut_sound so s⟩
theorem sd_mut0 (i : Nat) {g : List D → List D → (List D → Prop) → Prop} (hm : MutD X id g) (slot : Slot "list" name id) (hty : typeOf (.builtin id) = pure (.type "method_descriptor"))
    (hN : X.N[i]? = some x := by rfl) (hv : Vis X.env.scope x := by first | exact Or.inl rfl | exact Or.inr (Or.inl rfl) | exact Or.inr (Or.inr rfl)) (hd : (x == ("__debug__" : Str)) = false := by decide) (hcd : (x == ("__classdict__" : Str)) = false := by decide)
    (hbase : attributeBase (.Name x p) name X.env (eval (.Name x p) X.env) = eval (.Name x p) X.env := by rfl) (hline : (apos.endLine == mpos.line) = true := by rfl)
    (hs : swapsWith (.Call (.Attribute (.Name x p) name apos) [] [] mpos) none pos.line X.env = pure false := by rfl) :
    SD X E (.Expr (.Call (.Attribute (.Name x p) name apos) [] [] mpos) pos) (wMut i g wNil) := by
  obtain ⟨r, mr, so⟩ := hm.ex
  refine ⟨_, ps_expr (pe_bm0 PySem.F.plainAttrs_list slot hty mr (pe_var hN hv hd hcd) hbase hline) hs, fun q ρ hw F σ H S D rp o => ?_⟩
  unfold wMut at hw
  split at hw
  · rename_i m xs hi
    obtain ⟨l, u, e, h1, h2, ⟨us, rfl, h3⟩, _⟩ := rp.own hi
    refine ⟨.ref l, e, .inl ⟨rfl, _, .of h2⟩, ?_⟩
    refine so xs [] _ hw H S l us [] _ rp.sh h2 h3 .nil fun ys ws v q2 hy => ?_
    exact o.nx _ _ _ S q2 (rp.put (o' := .lst ws) hi e ⟨ws, rfl, hy⟩)
  · exact hw.elim
/-- l[k] = e, l a slot's own list -/
def wsSetIx (i : Nat) (w wb : WE) : WS := fun q ρ => w q.ex ρ fun d => match ρ[i]? with
  | some (.own m (.lst xs)) => wb q.ex ρ fun k => match k with
    | .int k => ∃ j, ixN xs.length k = some j ∧ q.nx (ρ.set i (.own m (.lst (xs.set j d))))
    | _ => False
  | _ => False
theorem sd_setIx (i : Nat) {tpos : Pos} (he : ED X E e w) (hb : ED X E b wb) (hN : X.N[i]? = some x := by rfl) (hv : Vis X.env.scope x := by first | exact Or.inl rfl | exact Or.inr (Or.inl rfl) | exact Or.inr (Or.inr rfl)) (hd : (x == ("__debug__" : Str)) = false := by decide) (hcd : (x == ("__classdict__" : Str)) = false := by decide)
    (ha : ∀ v, assign (.Subscript (.Name x p) b tpos) X.env v = (do
      let ov ← holding [v] (eval (.Name x p) X.env)
      let iv ← holding [v, ov] (eval b X.env)
      standAt tpos
      holding [v, ov, iv] (setItem ov iv v)
      release [v, ov, iv] []) := by intro _; rfl) (hs : swapsWithSole [.Subscript (.Name x p) b tpos] e pos.line X.env = pure false := by rfl) (hw : swappedStores [.Subscript (.Name x p) b tpos] e X.env = pure none := by rfl)
    (h1 : (assignEach [.Subscript (.Name x p) b tpos] X.env).map (·.2) = [assign (.Subscript (.Name x p) b tpos) X.env] := by rfl) :
    SD X E (.Assign [.Subscript (.Name x p) b tpos] e pos) (wsSetIx i w wb) := by
  obtain ⟨t, pe, s⟩ := he.ex
  obtain ⟨tb, pb, sb⟩ := hb.ex
  refine ⟨_, ps_asg pe (pg_sub (pe_var hN hv hd hcd) pb set_list ha) hs hw h1, fun q ρ hw F σ H S D rp o => ?_⟩
  refine s q.ex ρ _ hw F σ H S _ rp (o.exOk rp) fun d v H1 S1 q1 g1 h1 => ?_
  split at q1
  · rename_i m xs hi
    have rp1 := rp.grow g1
    obtain ⟨l, u, e, z1, z2, ⟨us, rfl, z3⟩, _⟩ := rp1.own hi
    refine ⟨.ref l, e, sb q.ex ρ _ q1 F σ H1 S1 _ rp1 (o.exOk rp1) fun k kv H2 S2 q2 g2 h2 => ?_⟩
    cases k with
    | int k =>
      unfold Dat at h2
      subst h2
      obtain ⟨j, hj, q2⟩ := q2
      exact ⟨l, us, k, j, rfl, rfl, g2.hh.lst z2, by rw [z3.len]; exact hj, o.nx _ _ _ S2 q2 ((rp1.grow g2).put hi e ⟨_, rfl, (Dats.mono g2.ss _ _ z3).set j (Dat.mono g2.ss _ _ h1)⟩)⟩
    | _ => exact q2.elim
  · exact q1.elim

/-! ### loops -/
def loopL (g : WG) (wb : WS) (q : DEnds) : List D → Ev → Prop
  | [], ρ => q.nx ρ
  | d :: ds, ρ => g d ρ fun ρ1 => wb { q with nx := loopL g wb q ds, ct := loopL g wb q ds, bk := q.nx } ρ1
def wFor (wi : WL) (g : WG) (wb : WS) : WS := fun q ρ => wi q.ex ρ fun ds => loopL g wb q ds ρ
theorem fg_in {F : Fr} {H S S1 : Hp} (f : FGrow { F with S0 := S1 } H S) (ss : Same F.S0 S1) (nw : ∀ a, F.H0 a ≠ none → S1 a = F.S0 a) : FGrow F H S :=
  ⟨f.hh, f.al, ss.trans f.ss, f.sh, fun a h => (f.nw a h).trans (nw a h), f.ft, f.tb⟩
theorem rep_in {F : Fr} {ρ : Ev} {σ : L2.St} {H S S1 : Hp} (r : Rep { F with S0 := S1 } ρ σ H S) (ss : Same F.S0 S1) (nw : ∀ a, F.H0 a ≠ none → S1 a = F.S0 a) : Rep F ρ σ H S := by
  refine ⟨fg_in r.fg ss nw, r.len, fun i sl h => ?_, r.dist⟩
  have q := r.at' i sl h
  cases sl with
  | un => trivial
  | fz d => exact q
  | own m c => exact q
theorem rep_to {F : Fr} {ρ : Ev} {σ : L2.St} {H S : Hp} (r : Rep F ρ σ H S) : Rep { F with S0 := S } ρ σ H S := by
  refine ⟨⟨r.fg.hh, r.fg.al, .refl _, r.fg.sh, fun _ _ => rfl, r.fg.ft, r.fg.tb⟩, r.len, fun i sl h => ?_, r.dist⟩
  have q := r.at' i sl h
  cases sl with
  | un => trivial
  | fz d => exact q
  | own m c => exact q
theorem sd_for {tg iter : Expr} {is : List Nat} {g : WG} {wi : WL} {body : List Stmt} (xk : XOk X E) (hc : X.calm = true) (hi : ID X E tg iter wi) (hg : GD X tg is g) (hb : SDs X E body ws) (hs : ∀ x, foldedSetIterable iter X.env x = pure x := by intro _; rfl) :
    SD X E (.For tg iter body [] pos) (wFor wi g ws) := by
  obtain ⟨ti, pti, si⟩ := hi.ex
  obtain ⟨tg, pg, sg⟩ := hg.ex
  obtain ⟨tb, pb, sb⟩ := hb.ex
  refine ⟨_, ps_for xk.own hc pti pg pb hs, fun q ρ hw F σ H S D rp o => ?_⟩
  refine si q.ex ρ _ hw F σ H S _ rp (o.exOk rp) fun ds J H1 S1 q1 g1 hJ => ?_
  have rp1 := rp.grow g1
  have ss1 := rp1.fg.ss
  have nw1 := rp1.fg.nw
  let W : Nat → Nat → L2.St → Hp → Prop := fun i m σ H => m = ds.length - i ∧ i ≤ ds.length ∧ ∃ ρ S, Rep { F with S0 := S1 } ρ σ H S ∧ loopL g ws q (ds.drop i) ρ
  refine ⟨W, ⟨ds.length, by simp, Nat.zero_le _, ρ, S1, rep_to rp1, q1⟩, ?_⟩
  rintro i m σ2 H2 ⟨rfl, hi, ρ2, S2, r2, hl⟩
  rcases Nat.lt_or_ge i ds.length with hlt | hge
  · obtain ⟨d, hdi⟩ : ∃ d, ds[i]? = some d := ⟨_, List.getElem?_eq_getElem hlt⟩
    obtain ⟨go, yl⟩ := (hJ i H2 S2 r2.fg.ss r2.fg.sh).1 d hdi
    have hdrop : ds.drop i = d :: ds.drop (i + 1) := by
      rw [List.drop_eq_getElem_cons hlt]
      congr 1
      rw [List.getElem?_eq_getElem hlt] at hdi
      exact Option.some.inj hdi
    rw [hdrop] at hl
    refine .inr ⟨go, W (i + 1) (ds.length - (i + 1)), fun σ' H' h => ⟨_, by omega, h⟩, fun x H' y => ?_⟩
    obtain ⟨S', g', dx⟩ := yl x H' y
    refine sg d ρ2 _ hl { F with S0 := S1 } σ2 H' S' x _ (r2.grow g') dx fun ρ3 σ3 h3 r3 _ => ?_
    refine sb _ ρ3 h3 { F with S0 := S1 } σ3 H' S' _ r3 ⟨fun ρ4 σ4 H4 S4 q4 r4 => ⟨rfl, hlt, ρ4, S4, r4, q4⟩, fun r ρ4 v σ4 H4 S4 q4 r4 p4 => o.rt r ρ4 v σ4 H4 S4 q4 (rep_in r4 ss1 nw1) p4,
      fun ρ4 σ4 H4 S4 q4 r4 => o.nx ρ4 σ4 H4 S4 q4 (rep_in r4 ss1 nw1), fun ρ4 σ4 H4 S4 q4 r4 => ⟨rfl, hlt, ρ4, S4, r4, q4⟩, fun n C H4 S4 h1 h2 h3 => o.ex n C H4 S4 h1 h2 (fg_in h3 ss1 nw1)⟩
  · have e : i = ds.length := by omega
    subst e
    rw [List.drop_length] at hl
    exact .inl ⟨(hJ _ H2 S2 r2.fg.ss r2.fg.sh).2 (Nat.le_refl _), o.nx ρ2 σ2 H2 S2 hl (rep_in r2 ss1 nw1)⟩
/-- while, by a word and a measure -/
def wWhile (wt : WT) (wb : WS) : WS := fun q ρ => ∃ I : Nat → Ev → Prop, (∃ m, I m ρ) ∧ ∀ m ρ, I m ρ → wt q.ex ρ fun b => Br b (wb { q with nx := fun ρ' => ∃ m', m' < m ∧ I m' ρ', ct := fun ρ' => ∃ m', m' < m ∧ I m' ρ', bk := q.nx } ρ) (q.nx ρ) ⟨⟩ ⟨⟩
theorem sd_while {c : Expr} {body : List Stmt} (xk : XOk X E) (hc : TD X E c wt) (hb : SDs X E body ws) : SD X E (.While c body [] pos) (wWhile wt ws) := by
  obtain ⟨t, p, s⟩ := hc.ex
  obtain ⟨tb, pb, sb⟩ := hb.ex
  refine ⟨_, ps_while xk.own p pb, fun q ρ hw F σ H S D rp o => ?_⟩
  obtain ⟨I, ⟨m0, h0⟩, turn⟩ := hw
  refine ⟨fun m σ H => ∃ ρ S, Rep F ρ σ H S ∧ I m ρ, ⟨m0, ρ, S, rp, h0⟩, ?_⟩
  rintro m σ2 H2 ⟨ρ2, S2, r2, h2⟩
  refine s q.ex ρ2 _ (turn m ρ2 h2) F σ2 H2 S2 _ r2 (o.exOk r2) fun b H3 S3 q3 g3 => ?_
  cases b with
  | true =>
    refine iteT ⟨fun σ' H' => ∃ m', m' < m ∧ ∃ ρ S, Rep F ρ σ' H' S ∧ I m' ρ, fun σ' H' h => h, ?_⟩
    exact sb _ ρ2 q3 F σ2 H3 S3 _ (r2.grow g3) ⟨fun ρ4 σ4 H4 S4 ⟨m', hm, q4⟩ r4 => ⟨m', hm, ρ4, S4, r4, q4⟩, o.rt, o.nx, fun ρ4 σ4 H4 S4 ⟨m', hm, q4⟩ r4 => ⟨m', hm, ρ4, S4, r4, q4⟩, o.ex⟩
  | false => exact iteF (o.nx ρ2 σ2 H3 S3 q3 (r2.grow g3))

/-! ### raise X('..') -/
structure ExcC (K : PySem.W.Frag) (mg : Str → Option Value) (n : Str) (C : Addr) : Prop where
  g : mg n = some (.ref C)
  x : PySem.W.excIn K C [.type "ValueError", .type "Exception", .type "BaseException", .type "object"] "ValueError.__new__" = true
  k : PySem.W.keepIn K (.ref C) = true
  b : PySem.W.subIn K (.ref C) (.type "BaseException") = some true
  t : PySem.W.typeIn K (.ref C) = some (.type "type")
def wsRaise (n : Str) : WS := fun q _ => q.ex n
theorem sd_raise {n m : Str} {C : Addr} {j : Nat} {p1 p2 p3 : Pos} (xk : XOk X E) (hc : X.calm = true) (c : ExcC X.K X.mg n C) (hg : Gl X n) (hdb : (n == ("__debug__" : Str)) = false := by decide) :
    SD X E (.Raise (some (.Call (.Name n p1) [.Constant (.str m) j p2] [] p3)) none pos) (wsRaise n) :=
  ⟨_, L2N.ps_raise hc xk.take (L2N.pmk_own PySem.F.excBase_ValueError c.x c.g c.k (raises_own c.b c.t) hg hdb), fun q ρ hw F σ H S D rp o => o.ex n C H S hw c.g rp.fg⟩
end

/-! ### a def by its body -/
def startE (n : Nat) (ds : List D) : Ev := ds.map .fz ++ List.replicate (n - ds.length) .un
theorem rep_start {H S : Hp} {N : List Str} {ds : List D} {vs : List V} (sh : Same S H) (tb : Tbq S H) (h : Dats S ds vs) (hl : ds.length ≤ N.length) : Rep { H0 := H, S0 := S, M := fun _ => False } (startE N.length ds) (L2.start N vs) H S := by
  have hlen := h.len
  refine ⟨⟨fun _ _ _ e _ => e, fun _ e => e, .refl _, sh, fun _ _ => rfl, fun _ _ _ h => h, tb⟩, ?_, fun i sl e => ?_, fun i j m m' c c' _ e _ => ?_⟩
  · unfold L2.start startE
    simp only [List.length_append, List.length_map, List.length_replicate]
    omega
  · unfold startE at e
    rcases Nat.lt_or_ge i ds.length with hi | hi
    · rw [List.getElem?_append_left (by simpa using hi), List.getElem?_map] at e
      cases q : ds[i]? with
      | none => rw [q] at e; cases e
      | some d =>
        rw [q] at e
        cases e
        obtain ⟨v, hv, hz⟩ := h.get q
        refine ⟨v, ?_, hz⟩
        unfold L2.start
        rw [List.getElem?_append_left (by rw [List.length_map, hlen]; exact hi), List.getElem?_map, hv]
        rfl
    · rw [List.getElem?_append_right (by simpa using hi), List.getElem?_replicate] at e
      split at e
      · cases e
        trivial
      · cases e
  · unfold startE at e
    rcases Nat.lt_or_ge i ds.length with hi | hi
    · rw [List.getElem?_append_left (by simpa using hi), List.getElem?_map] at e
      cases q : ds[i]? with
      | none => rw [q] at e; cases e
      | some d => rw [q] at e; cases e
    · rw [List.getElem?_append_right (by simpa using hi), List.getElem?_replicate] at e
      split at e
      · cases e
      · cases e
section
variable {P : Program} {w : World} {K : PySem.W.Frag} {mg : Str → Option Value} {base : Heap}
def endsOf (R : Rt → Prop) (x : XS) : DEnds := { nx := fun _ => R (.val .non), rt := fun r _ => R r, ex := x }
/-- the context of a def's body -/
abbrev cxF (P : Program) (w : World) (K : PySem.W.Frag) (mg : Str → Option Value) (base : Heap) (N : List Str) (qual : Str) (sc : Scope) (f : Addr) (cdv : Value) (A : Around) (outer : List Env) (s : Shared) (H : Hp) (E : XK) : Cx :=
  cxOf (L2N.CX P w) P w K mg base N qual sc f cdv A outer s H E
theorem okN {x qual : Str} {st : Stmt} {f : Addr} {fd : FuncData} {N ps : List Str} {k : Nat} {sp : Sp} (F : Fun K x qual st f fd) (S : FnScope N ps (defScope st)) (len : ∀ vs H Q E, sp vs H Q E → vs.length = ps.length)
    (hb : ∀ (cdv : Value) (A : Around) (outer : List Env) (s : Shared) (H : Hp) (vs : List V) (Q : VK) (E : XK), Room k (A.deeper (envOfC qual (defScope st) s.heap.objs.size f cdv)) → sp vs H Q E →
      ∃ t, PSs (cxF P w K mg base N qual (defScope st) f cdv A outer s H E) (defBody st) t ∧ t { nx := fun _ H' => Q .non H', rt := Q } (L2.start N vs) H) : FnOk P w K mg base (L2N.CX P w) (k + 1) f fd ps sp := by
  obtain ⟨_, _, _, _, _, _, cdv, _, _, rfl, lk, hc⟩ := F.ex
  exact fn_of lk hc S len fun A outer s H vs Q E => hb cdv A outer s H vs Q E
theorem xk_fn {N : List Str} {qual : Str} {sc : Scope} {f : Addr} {cdv : Value} {A : Around} {outer : List Env} {s : Shared} {H : Hp} {E : XK} : XOk (cxF P w K mg base N qual sc f cdv A outer s H E) E := by
  have tk : L2N.Takes (cxF P w K mg base N qual sc f cdv A outer s H E) (fun cls d _ H => E cls d H) := L2N.takes_of rfl rfl rfl rfl
  exact ⟨L2N.passes_call tk fun _ _ _ _ h => h, tk, passes_of rfl⟩
theorem fn_ok {x qual : Str} {st : Stmt} {f : Addr} {fd : FuncData} {N ps : List Str} {k : Nat} {sp : Spec} (F : Fun K x qual st f fd) (S : FnScope N ps (defScope st)) (len : ∀ ds x R, sp ds x R → ds.length = ps.length)
    (hbody : ∀ (cdv : Value) (A : Around) (outer : List Env) (s : Shared) (H : Hp) (E : XK), Room k (A.deeper (envOfC qual (defScope st) s.heap.objs.size f cdv)) → XOk (cxF P w K mg base N qual (defScope st) f cdv A outer s H E) E →
      ∃ ws, SDs (cxF P w K mg base N qual (defScope st) f cdv A outer s H E) E (defBody st) ws ∧ ∀ ds x R, sp ds x R → ws (endsOf R x) (startE N.length ds)) :
    FnOk P w K mg base (L2N.CX P w) (k + 1) f fd ps (spOf mg sp) := by
  have hpl : ps.length ≤ N.length := by
    have := congrArg List.length S.pre
    rw [List.length_take] at this
    omega
  refine okN F S (fun vs H Q E h => ?_) (fun cdv A outer s H vs Q E hr h => ?_)
  · obtain ⟨ds, S, x, R, _, hd, hs, _⟩ := h
    rw [hd.len]
    exact len ds x R hs
  · obtain ⟨ds, S0, x, R, ⟨sh, tb⟩, hd, hs, k1, k2⟩ := h
    obtain ⟨ws, sd, pure⟩ := hbody cdv A outer s H E hr xk_fn
    obtain ⟨t, pt, so⟩ := sd.ex
    have hl : ds.length ≤ N.length := by rw [len ds x R hs]; exact hpl
    have gr : ∀ {H' S' : Hp}, FGrow { H0 := H, S0 := S0, M := fun _ => False } H' S' → Grow H S0 H' S' := fun f => ⟨⟨fun a o e n => f.hh a o (fun z => z) e n, f.al, f.ft⟩, f.ss, f.sh, f.nw⟩
    refine ⟨t, pt, so _ _ (pure ds x R hs) _ _ H S0 _ (rep_start sh tb hd hl) ⟨fun ρ σ H' S' q r => k1 _ _ H' S' q (gr r.fg) (show Dat S' .non .non from .n), fun r ρ v σ H' S' q rp p => k1 r v H' S' q (gr rp.fg) p, fun _ _ _ _ z => z.elim, fun _ _ _ _ z => z.elim, fun n C H' S' h1 h2 h3 => k2 n C H' S' h1 h2 (gr h3)⟩⟩
end
end NL

namespace NL
open PySem PySem.Spec L2
open PyProof.Rows hiding St
variable [KC]

/-! ### a def that changes the list handed in first -/
structure GrowM (p : Addr) (H S H' S' : Hp) : Prop where
  hh : ∀ a o, a ≠ p → H a = some o → (∀ ps, o ≠ .tbl ps) → H' a = some o
  ne : ∀ a, H a ≠ none → H' a ≠ none
  tab : ∀ P q, (P, q) ∈ KC.T → LamX.TabS H P q → LamX.TabS H' P q
  ss : Same S S'
  sh : Same S' H'
  nw : ∀ a, H a ≠ none → S' a = S a
theorem Rep.putM {F : Fr} {ρ : Ev} {σ : L2.St} {H S H' S' : Hp} {i : Nat} {m : Bool} {c c' : Cn} {p : Addr} {o' : HO} (r : Rep F ρ σ H S) (h : ρ[i]? = some (.own m c)) (hp : σ[i]? = some (some (.ref p))) (g : GrowM p H S H' S') (hH : H' p = some o') (hc : CnOk S' c' o') :
    Rep F (ρ.set i (.own m c')) σ H' S' := by
  obtain ⟨p', o1, e1, e2, e3, e4, e5, e6⟩ := r.own h
  have : p' = p := by
    rw [e1] at hp
    cases hp
    rfl
  subst this
  have hl : i < ρ.length := by
    rcases Nat.lt_or_ge i ρ.length with q | q
    · exact q
    · rw [List.getElem?_eq_none q] at h
      cases h
  have keep := g.ne
  refine ⟨⟨fun a u hm ha nt => ?_, fun a ha => keep a (r.fg.al a ha), r.fg.ss.trans g.ss, g.sh, fun a ha => (g.nw a (r.fg.al a ha)).trans (r.fg.nw a ha), fun P q m h => g.tab P q m (r.fg.ft P q m h), ⟨fun q h => g.tab _ _ h (r.fg.tb.1 q h), fun q h => (g.nw q.1 (tab_ne (r.fg.tb.1 q h))).trans (r.fg.tb.2 q h)⟩⟩, by simp [r.len], fun j sl e => ?_, fun j k m1 m2 c1 c2 n q1 q2 => ?_⟩
  · have ne : a ≠ p' := fun z => by
      subst z
      cases m with
      | true => exact hm (e5 rfl)
      | false => rw [e6 rfl] at ha; cases ha
    exact g.hh a u ne (r.fg.hh a u hm ha nt) nt
  · by_cases z : i = j
    · subst z
      rw [List.getElem?_set_self hl] at e
      cases e
      exact ⟨p', o', hp, by rw [g.nw p' (by rw [e3]; intro z; cases z)]; exact e2, hH, hc, e5, e6⟩
    · rw [List.getElem?_set_ne z] at e
      have q := r.at' j sl e
      cases sl with
      | un => trivial
      | fz d =>
        obtain ⟨v, f1, f2⟩ := q
        exact ⟨v, f1, Dat.mono g.ss d v f2⟩
      | own m3 c3 =>
        obtain ⟨p3, o3, f1, f2, f3, f4, f5⟩ := q
        have ne : p3 ≠ p' := fun z3 => r.dist i j m m3 c c3 z h e (by rw [hp, f1, z3])
        exact ⟨p3, o3, f1, by rw [g.nw p3 (by rw [f3]; intro z; cases z)]; exact f2, g.hh _ _ ne f3 f4.ntb.1, f4.mono g.ss, f5⟩
  · have conv : ∀ (l : Nat) (m4 : Bool) (c4 : Cn), (ρ.set i (.own m c'))[l]? = some (.own m4 c4) → ∃ m5 c5, ρ[l]? = some (.own m5 c5) := fun l m4 c4 q => by
      by_cases z : i = l
      · subst z
        exact ⟨m, c, h⟩
      · rw [List.getElem?_set_ne z] at q
        exact ⟨_, _, q⟩
    obtain ⟨_, _, w1⟩ := conv _ _ _ q1
    obtain ⟨_, _, w2⟩ := conv _ _ _ q2
    exact r.dist j k _ _ _ _ n w1 w2
/-- content, the other arguments, behind: content, what is told -/
abbrev SpecM := List D → List D → (List D → D → Prop) → Prop
def spOfM (sp : SpecM) : Sp := fun vs H Q _ => ∃ p us rest xs ds S R, vs = .ref p :: rest ∧ (Same S H ∧ Tbq S H) ∧ S p = none ∧ H p = some (.lst us) ∧ Dats S xs us ∧ Dats S ds rest ∧ sp xs ds R ∧
  (∀ ys d v H' S' ws, R ys d → GrowM p H S H' S' → H' p = some (.lst ws) → Dats S' ys ws → Dat S' d v → Q v H')
section
variable {P : Program} {w : World} {K : PySem.W.Frag} {mg : Str → Option Value} {base : Heap}
def endM (R : List D → D → Prop) (r : Rt) (ρ : Ev) : Prop := match r, (ρ[0]? : Option Sl) with
  | .val d, some (.own true (.lst ys)) => R ys d
  | _, _ => False
def endsM (R : List D → D → Prop) : DEnds where
  nx := endM R (.val .non)
  rt := endM R
  ex := fun _ => False
def startM (n : Nat) (xs ds : List D) : Ev := .own true (.lst xs) :: startE (n - 1) ds
theorem rep_startM {H S : Hp} {N : List Str} {ds xs : List D} {vs us : List V} {p : Addr} (sh : Same S H) (tb : Tbq S H) (hS : S p = none) (hH : H p = some (.lst us)) (hx : Dats S xs us) (h : Dats S ds vs) (hl : ds.length + 1 ≤ N.length) :
    Rep { H0 := H, S0 := S, M := fun a => a = p } (startM N.length xs ds) (L2.start N (.ref p :: vs)) H S := by
  have hlen := h.len
  have st : L2.start N (.ref p :: vs) = some (.ref p) :: (vs.map some ++ List.replicate (N.length - (vs.length + 1)) none) := rfl
  refine ⟨⟨fun _ _ _ e _ => e, fun _ e => e, .refl _, sh, fun _ _ => rfl, fun _ _ _ h => h, tb⟩, ?_, fun i sl e => ?_, fun i j m m' c c' ne e1 e2 => ?_⟩
  · rw [st]
    unfold startM startE
    simp only [List.length_append, List.length_map, List.length_replicate, List.length_cons]
    omega
  · rw [st]
    unfold startM startE at e
    cases i with
    | zero =>
      cases e
      exact ⟨p, _, rfl, hS, hH, ⟨us, rfl, hx⟩, fun _ => rfl, fun z => by cases z⟩
    | succ i =>
      rw [List.getElem?_cons_succ] at e ⊢
      rcases Nat.lt_or_ge i ds.length with hi | hi
      · rw [List.getElem?_append_left (by simpa using hi), List.getElem?_map] at e
        cases q : ds[i]? with
        | none => rw [q] at e; cases e
        | some d =>
          rw [q] at e
          cases e
          obtain ⟨v, hv, hz⟩ := h.get q
          refine ⟨v, ?_, hz⟩
          rw [List.getElem?_append_left (by rw [List.length_map, hlen]; exact hi), List.getElem?_map, hv]
          rfl
      · rw [List.getElem?_append_right (by simpa using hi), List.getElem?_replicate] at e
        split at e
        · cases e
          trivial
        · cases e
  · have only : ∀ (i : Nat) (m : Bool) (c : Cn), (startM N.length xs ds)[i]? = some (.own m c) → i = 0 := fun i m c e => by
      unfold startM startE at e
      cases i with
      | zero => rfl
      | succ i =>
        rw [List.getElem?_cons_succ] at e
        rcases Nat.lt_or_ge i ds.length with hi | hi
        · rw [List.getElem?_append_left (by simpa using hi), List.getElem?_map] at e
          cases q : ds[i]? with
          | none => rw [q] at e; cases e
          | some d => rw [q] at e; cases e
        · rw [List.getElem?_append_right (by simpa using hi), List.getElem?_replicate] at e
          split at e
          · cases e
          · cases e
    exact absurd ((only i m c e1).trans (only j m' c' e2).symm) ne
theorem fn_okM {x qual : Str} {st : Stmt} {f : Addr} {fd : FuncData} {N ps : List Str} {k : Nat} {sp : SpecM} (F : Fun K x qual st f fd) (S : FnScope N ps (defScope st)) (len : ∀ xs ds R, sp xs ds R → ds.length + 1 = ps.length)
    (hbody : ∀ (cdv : Value) (A : Around) (outer : List Env) (s : Shared) (H : Hp) (E : XK), Room k (A.deeper (envOfC qual (defScope st) s.heap.objs.size f cdv)) → XOk (cxF P w K mg base N qual (defScope st) f cdv A outer s H E) E →
      ∃ ws, SDs (cxF P w K mg base N qual (defScope st) f cdv A outer s H E) E (defBody st) ws ∧ ∀ xs ds R, sp xs ds R → ws (endsM R) (startM N.length xs ds)) :
    FnOk P w K mg base (L2N.CX P w) (k + 1) f fd ps (spOfM sp) := by
  have hpl : ps.length ≤ N.length := by
    have := congrArg List.length S.pre
    rw [List.length_take] at this
    omega
  refine okN F S (fun vs H Q E h => ?_) (fun cdv A outer s H vs Q E hr h => ?_)
  · obtain ⟨p, us, rest, xs, ds, S0, R, rfl, _, _, _, _, hd, hs, _⟩ := h
    rw [List.length_cons, hd.len]
    exact len xs ds R hs
  · obtain ⟨p, us, rest, xs, ds, S0, R, rfl, ⟨sh, tb⟩, hS, hH, hx, hd, hs, k1⟩ := h
    obtain ⟨ws, sd, pure⟩ := hbody cdv A outer s H E hr xk_fn
    obtain ⟨t, pt, so⟩ := sd.ex
    have hl : ds.length + 1 ≤ N.length := by rw [len xs ds R hs]; exact hpl
    have fin : ∀ {ρ : Ev} {σ : L2.St} {H' S' : Hp} {ys : List D} {d : D} {v : V}, Rep { H0 := H, S0 := S0, M := fun a => a = p } ρ σ H' S' → ρ[0]? = some (.own true (.lst ys)) → R ys d → Dat S' d v → Q v H' := fun {ρ σ H' S' ys d v} r h0 q hd => by
      obtain ⟨p', o, e1, e2, e3, ⟨ws, rfl, e4⟩, e5, _⟩ := r.own h0
      have : p' = p := e5 rfl
      subst this
      exact k1 ys d v H' S' ws q ⟨fun a o n e nt => r.fg.hh a o n e nt, r.fg.al, r.fg.ft, r.fg.ss, r.fg.sh, r.fg.nw⟩ e3 e4 hd
    refine ⟨t, pt, so _ _ (pure xs ds R hs) _ _ H S0 _ (rep_startM sh tb hS hH hx hd hl) ⟨fun ρ σ H' S' q r => ?_, fun r ρ v σ H' S' q rp pp => ?_, fun _ _ _ _ z => z.elim, fun _ _ _ _ z => z.elim, fun n C H' S' h1 h2 h3 => h1.elim⟩⟩
    · simp only [endsM, endM] at q
      split at q
      · rename_i d ys h1 h0
        cases h1
        exact fin (v := .non) r h0 q (show Dat S' .non .non from .n)
      · exact q.elim
    · simp only [endsM, endM] at q
      split at q
      · rename_i d ys h0
        exact fin rp h0 q pp
      · exact q.elim
end
section
variable {X : Cx} {E : XK} {e a b : Expr} {es : List Expr} {pos : Pos} {w wa wb we : WE} {wl : WL} {k : Nat} {f : Addr} {fd : FuncData} {ps : List Str} {sp : SpecM} {x y : Str} {p p1 mpos : Pos}
def AskM (sp : SpecM) (xs ds : List D) (K : List D → D → Prop) (_ : Tg K) : Prop := sp xs ds K
def wsCallM (i : Nat) (sp : SpecM) (wl : WL) : WS := fun q ρ => match ρ[i]? with
  | some (.own m (.lst xs)) => wl q.ex ρ fun ds => AskM sp xs ds (fun ys _ => q.nx (ρ.set i (.own m (.lst ys)))) ⟨⟩
  | _ => False
/-- f(l, ..) as a statement, l a slot's own list that f changes -/
theorem sd_callM (i : Nat) (G : FnOk X.prog X.w X.K X.mg X.base (L2N.CX X.prog X.w) k f fd ps (spOfM sp)) (hr : Room k X.A) (xk : XOk X E) (hg : Gl X x) (hm : X.mg x = some (.ref f)) (hk : PySem.W.keepIn X.K (.ref f) = true) (hb : Binds X.K fd ps [])
    (ha : AD X E es wl) (hN : X.N[i]? = some y := by rfl) (hv : Vis X.env.scope y := by first | exact Or.inl rfl | exact Or.inr (Or.inl rfl) | exact Or.inr (Or.inr rfl)) (hd : (y == ("__debug__" : Str)) = false := by decide) (hcd : (y == ("__classdict__" : Str)) = false := by decide)
    (hdb : (x == ("__debug__" : Str)) = false := by decide) (he : starEach (.Name y p1 :: es) X.env = (false, eval (.Name y p1) X.env) :: starEach es X.env := by rfl) (hpl : (backTo mpos (starEach es X.env)).any (·.1) = false := by rfl)
    (hs : swapsWith (.Call (.Name x p) (.Name y p1 :: es) [] mpos) none pos.line X.env = pure false := by rfl) :
    SD X E (.Expr (.Call (.Name x p) (.Name y p1 :: es) [] mpos) pos) (wsCallM i sp wl) := by
  obtain ⟨t, pt, s⟩ := ha.ex
  have px : Passes (L2N.CX X.prog X.w) X E := xk.pass
  refine ⟨_, ps_expr (pe_call G hr hg hm hk hb .nil px (pa_cons (pe_var hN hv hd hcd) pt he) hdb he hpl) hs, fun q ρ hw F σ H S D rp o => ?_⟩
  unfold wsCallM at hw
  split at hw
  · rename_i m xs hi
    obtain ⟨l, u, e, h1, h2, ⟨us, rfl, h3⟩, _⟩ := rp.own hi
    refine ⟨.ref l, e, ?_⟩
    refine s q.ex ρ _ hw F σ H S _ rp (o.exOk rp) fun ds vs H1 S1 q1 g1 hd => ?_
    have rp1 := rp.grow g1
    refine ⟨l, us, vs, xs, ds, S1, _, by rw [List.append_nil], ⟨g1.sh, rp1.fg.tb⟩, by rw [g1.nw l (by rw [h2]; intro z; cases z)]; exact h1, g1.hh.lst h2, Dats.mono g1.ss _ _ h3, hd, q1, fun ys d v H2 S2 ws q2 g2 z1 z2 z3 => ?_⟩
    exact o.nx _ _ H2 S2 q2 (rp1.putM hi e g2 z1 ⟨ws, rfl, z2⟩)
  · exact hw.elim
/-- x = x + l.pop()[c] : ints -/
def wsPopAdd (j i : Nat) (c : Int) : WS := fun q ρ => match ρ[j]?, ρ[i]? with
  | some (.fz (.int n)), some (.own m (.lst xs)) => ∃ ds k, xs.getLast? = some (.tup ds) ∧ atI ds c = some (.int k) ∧ q.nx ((ρ.set i (.own m (.lst xs.dropLast))).set j (.fz (.int (n + k))))
  | _, _ => False
theorem sd_popAdd (j i : Nat) {c : Int} {jj : Nat} {p2 p3 p4 p5 p6 p7 p8 : Pos} (hN : X.N.Nodup) (hj : X.N[j]? = some x := by rfl) (hi : X.N[i]? = some y := by rfl) (hx : Loc X.env.scope x := by first | exact Or.inl rfl | exact Or.inr rfl) (hvx : Vis X.env.scope x := by first | exact Or.inl rfl | exact Or.inr (Or.inl rfl) | exact Or.inr (Or.inr rfl))
    (hvy : Vis X.env.scope y := by first | exact Or.inl rfl | exact Or.inr (Or.inl rfl) | exact Or.inr (Or.inr rfl)) (hd : (x == ("__debug__" : Str)) = false := by decide) (hcd : (x == ("__classdict__" : Str)) = false := by decide) (hdy : (y == ("__debug__" : Str)) = false := by decide) (hcdy : (y == ("__classdict__" : Str)) = false := by decide)
    (hf : X.fn x = true ∨ X.env.scope.names.lookup x = some .local := by first | exact .inl rfl | exact .inr rfl) (hij : i ≠ j := by decide)
    (hbase : attributeBase (.Name y p4) "pop" X.env (eval (.Name y p4) X.env) = eval (.Name y p4) X.env := by rfl) (hline : (p5.endLine == p6.line) = true := by rfl)
    (hs : swapsWith (.BinOp (.Name x p2) .Add (.Subscript (.Call (.Attribute (.Name y p4) "pop" p5) [] [] p6) (.Constant (.int c) jj p7) p8) p3) (some (.Name x p1)) pos.line X.env = pure false := by rfl) :
    SD X E (.Assign [.Name x p1] (.BinOp (.Name x p2) .Add (.Subscript (.Call (.Attribute (.Name y p4) "pop" p5) [] [] p6) (.Constant (.int c) jj p7) p8) p3) pos) (wsPopAdd j i c) := by
  refine ⟨_, ps_set hN hj hx (pe_op op_add (pe_var hj hvx hd hcd) (pe_ix ix_tup (pe_bm0 PySem.F.plainAttrs_list PySem.F.slot_list_pop PySem.F.type_list_pop mt_pop (pe_var hi hvy hdy hcdy) hbase hline) pe_int fun _ _ => rfl)) hs hf, fun q ρ hw F σ H S D rp o => ?_⟩
  unfold wsPopAdd at hw
  split at hw
  · rename_i n m xs ej ei
    obtain ⟨ds, k, e1, e2, q1⟩ := hw
    obtain ⟨v, ev, hv⟩ := rp.fz ej
    unfold Dat at hv
    subst hv
    obtain ⟨l, u, el, h1, h2, ⟨us, rfl, h3⟩, _⟩ := rp.own ei
    have hne : xs ≠ [] := fun z => by rw [z] at e1; cases e1
    have hpos := List.length_pos_iff.mpr hne
    have hlen := h3.len
    have e1' : xs[us.length - 1]? = some (.tup ds) := by rw [hlen, ← List.getLast?_eq_getElem?]; exact e1
    obtain ⟨y, hy, hz⟩ := h3.get e1'
    unfold Dat at hz
    obtain ⟨a, ws, rfl, ra, hw⟩ := hz
    obtain ⟨z, hz1, hz2⟩ := atI_dats hw e2
    unfold Dat at hz2
    subst hz2
    have ne : a ≠ l := fun z => by
      have := rp.sh _ _ ra
      rw [z, h2] at this
      cases this
    refine ⟨.int n, ev, .ref l, el, .inl ⟨rfl, us, .of h2⟩, l, us, .ref a, rfl, rfl, h2, hy, a, ws, c, .int k, rfl, rfl, .of ?_, hz1, n, k, rfl, rfl, ?_⟩
    · rw [upd_ne ne]
      exact rp.sh _ _ ra
    · exact o.nx _ _ _ S q1 ((rp.put (c' := .lst xs.dropLast) (o' := .lst us.dropLast) ei el ⟨_, rfl, h3.dropLast⟩).set .i)
  · exact hw.elim
end
end NL

namespace NL
open PySem PySem.Spec L2
open PyProof.Rows hiding St
variable [KC]
section
variable {X : Cx} {E : XK} {b e : Expr} {w wb : WE} {x : Str} {p pos : Pos}
omit [KC] in
theorem ixN_at {n j : Nat} (hj : j < n) : ixN n (j : Int) = some j := by
  unfold ixN
  simp only [Int.natCast_nonneg, if_true, Int.toNat_natCast]
  exact if_pos (by omega)
theorem get_list : PGet X (rIxL X.K) := by
  intro pins s σ H x y v u Q I rx ry h
  obtain ⟨p, xs, i, z, rfl, rfl, hq, he, q⟩ := h
  cases rx
  obtain ⟨t, rfl⟩ := ry
  obtain ⟨its, r, pl, hz⟩ := I.list hq
  obtain ⟨j, h1, h2, h3, h4, h5⟩ := atI_get he
  obtain ⟨w, ew, rw'⟩ := r.get h2
  have hl := r.length
  have hn := line63
  have fin : EP X pins σ Q w s := ⟨z, H, I, rw', q⟩
  by_cases h0 : 0 ≤ i
  · have hj : i.toNat = j := by
      rw [seqIndex_of h0 h5] at h1
      exact Option.some.inj h1
    exact wpAny_getItem_list pl.isList h0 (by omega) (by rw [hj]; simpa using ew) fin
  · have hj : (i + (its.toArray.size : Int)).toNat = j := by
      rw [seqIndex_neg (by omega) h4] at h1
      rw [List.size_toArray, ← hl]
      exact Option.some.inj h1
    exact wpAny_getItem_list_neg pl.isList (by omega) (by rw [List.size_toArray] <;> omega) (by omega) (by rw [hj]; simpa using ew) fin
/-- l[k] op= e, l a slot's own list -/
def wsAugIx (i : Nat) (g : D → D → (D → Prop) → Prop) (wb w : WE) : WS := fun q ρ => match ρ[i]? with
  | some (.own m (.lst xs)) => wb q.ex ρ fun k => match k with
    | .int k => ∃ (j : Nat) (d : D), k = (j : Int) ∧ xs[j]? = some d ∧ w q.ex ρ fun e => g d e fun z => q.nx (ρ.set i (.own m (.lst (xs.set j z))))
    | _ => False
  | _ => False
theorem sd_augIx (i : Nat) {tpos : Pos} {op : Operator} {g : D → D → (D → Prop) → Prop} (ho : PipD X op g) (hb : ED X E b wb) (he : ED X E e w) (hN : X.N[i]? = some x := by rfl) (hv : Vis X.env.scope x := by first | exact Or.inl rfl | exact Or.inr (Or.inl rfl) | exact Or.inr (Or.inr rfl))
    (hd : (x == ("__debug__" : Str)) = false := by decide) (hcd : (x == ("__classdict__" : Str)) = false := by decide)
    (ha : ∀ ov iv new, augStore b ov iv new = (do holding [new, ov, iv] (setItem ov iv new); release [new, ov, iv] []; pure .next) := by intros; rfl) :
    SD X E (.AugAssign (.Subscript (.Name x p) b tpos) op e pos) (wsAugIx i g wb w) := by
  obtain ⟨t, pe, s⟩ := he.ex
  obtain ⟨tb, pb, sb⟩ := hb.ex
  obtain ⟨r, pi, si⟩ := ho.ex
  refine ⟨_, ps_augS (pe_var hN hv hd hcd) pb get_list pe pi set_list ha, fun q ρ hw F σ H S D rp o => ?_⟩
  unfold wsAugIx at hw
  split at hw
  · rename_i m xs hi
    obtain ⟨l, u, e, z1, z2, ⟨us, rfl, z3⟩, _⟩ := rp.own hi
    refine ⟨.ref l, e, sb q.ex ρ _ hw F σ H S _ rp (o.exOk rp) fun k kv H1 S1 q1 g1 h1 => ?_⟩
    cases k with
    | int k =>
      unfold Dat at h1
      subst h1
      obtain ⟨j, d, rfl, hdj, q1⟩ := q1
      have rp1 := rp.grow g1
      have z31 := Dats.mono g1.ss _ _ z3
      obtain ⟨y, hy, hz⟩ := z31.get hdj
      have hj : j < us.length := (List.getElem?_eq_some_iff.mp hy).1
      refine ⟨l, us, (j : Int), y, rfl, rfl, .of (g1.hh.lst z2), atI_nat hy, ?_⟩
      refine s q.ex ρ _ q1 F σ H1 S1 _ rp1 (o.exOk rp1) fun e' v' H2 S2 q2 g2 h2 => ?_
      refine si d e' _ q2 H2 S2 y v' _ (rp1.grow g2).sh (Dat.mono g2.ss _ _ hz) h2 fun z' y' q3 h3 => ?_
      exact ⟨l, us, (j : Int), j, rfl, rfl, g2.hh.lst (g1.hh.lst z2), ixN_at hj, o.nx _ _ _ S2 q3 ((rp1.grow g2).put hi e ⟨_, rfl, (Dats.mono g2.ss _ _ z31).set j h3⟩)⟩
    | _ => exact q1.elim
  · exact hw.elim
/-- sep.join(texts) -/
def gJoin (a : Str) : D → (D → Prop) → Prop
  | .lst ds, Q => ∃ ys : List Str, ds = ys.map D.str ∧ (ys.map (·.length)).sum + ys.length * a.length ≤ 16777216 ∧ Q (.str (Txt.join a ys))
  | _, _ => False
def wJoin (wa wb : WE) : WE := fun x ρ Q => wa x ρ fun d => match d with
  | .str a => wb x ρ fun e => gJoin a e Q
  | _ => False
theorem ed_join {a : Expr} {wa : WE} {apos : Pos} (ha : BD X E a wa) (hb : BD X E b wb) (hs : starEach [b] X.env = [(false, eval b X.env)] := by rfl) (hbase : attributeBase a "join" X.env (eval a X.env) = eval a X.env := by rfl) (hline : (apos.endLine == pos.line) = true := by rfl) :
    ED X E (.Call (.Attribute a "join" apos) [b] [] pos) (wJoin wa wb) := by
  obtain ⟨ta, pa, sa⟩ := ha.ex
  obtain ⟨tb, pb, sb⟩ := hb.ex
  refine ⟨_, pe_join pa pb hs hbase hline, fun x ρ Q hw F σ H S Q' rp ex k => ?_⟩
  refine sa x ρ _ hw F σ H S _ rp ex fun d u H1 S1 q1 g1 h1 => ?_
  cases d with
  | str a =>
    cases h1.s
    refine ⟨⟨a, rfl⟩, sb x ρ _ q1 F σ H1 S1 _ (rp.grow g1) (ex.grow g1) fun e v H2 S2 q2 g2 h2 => ?_⟩
    cases e with
    | lst ds =>
      obtain ⟨ys, rfl, hz, q2⟩ := q2
      obtain ⟨l, vs, rfl, r, z⟩ := h2
      have := z.ofStrs
      subst this
      exact ⟨a, l, ys, rfl, rfl, .inl (.of r), hz, k _ _ H2 S2 q2 (g1.trans g2) .s⟩
    | _ => exact q2.elim
  | _ => exact q1.elim
end
/-- a promise that is never asked -/
theorem fn_no {P : Program} {w : World} {K : PySem.W.Frag} {mg : Str → Option Value} {base : Heap} {k : Nat} {f : Addr} {fd : FuncData} {ps : List Str} {sp : Spec} (h : ∀ ds x R, ¬ sp ds x R) :
    FnOk P w K mg base (L2N.CX P w) k f fd ps (spOf mg sp) :=
  ⟨fun _ _ _ _ ⟨_, _, _, _, _, _, hs, _⟩ => (h _ _ _ hs).elim, fun _ _ _ _ _ _ _ _ _ _ _ _ _ ⟨_, _, _, _, _, _, hs, _⟩ => (h _ _ _ hs).elim⟩
/-! a module's own texts and numbers -/
section
variable {X : Cx} {E : XK} {x : Str} {p : Pos}
theorem ed_globS {s : Str} (hg : Gl X x) (h : ∃ t, X.mg x = some (.str s t)) (hd : (x == ("__debug__" : Str)) = false := by decide) : ED X E (.Name x p) (wC (.str s)) := by
  obtain ⟨t, h⟩ := h
  exact ed_glob (v := .str s) hg h ⟨t, rfl⟩ (fun _ => Dat.s) hd
theorem ed_globI {s : Int} (hg : Gl X x) (h : ∃ t, X.mg x = some (.int s t)) (hd : (x == ("__debug__" : Str)) = false := by decide) : ED X E (.Name x p) (wC (.int s)) := by
  obtain ⟨t, h⟩ := h
  exact ed_glob (v := .int s) hg h ⟨t, rfl⟩ (fun _ => Dat.i) hd
end
/-! sum, any, all over a list -/
section
variable {X : Cx}
def gSum : List D → (D → Prop) → Prop
  | [.lst ds], Q => ∃ ns : List Int, ds = ns.map D.int ∧ Q (.int ns.sum)
  | _, _ => False
theorem cSum (hc : X.calm = true) : CalD X (.builtin "sum") gSum := by
  refine ⟨_, cr_sum hc, fun ds Q h H S vs Q' sh hd k => ?_⟩
  unfold gSum at h
  split at h
  · obtain ⟨ns, rfl, q⟩ := h
    obtain ⟨v, rfl, hz⟩ := hd.one
    obtain ⟨a, ws, rfl, r, z⟩ := hz
    have := z.ofInts
    subst this
    exact ⟨a, ns, rfl, .of r, k _ _ H S q (.refl sh) .i⟩
  · exact h.elim
def gAny : List D → (D → Prop) → Prop
  | [.lst ds], Q => ∃ bs : List Bool, ds = bs.map D.bl ∧ Q (.bl (bs.any id))
  | _, _ => False
theorem cAny (hc : X.calm = true) : CalD X (.builtin "any") gAny := by
  refine ⟨_, cr_any hc, fun ds Q h H S vs Q' sh hd k => ?_⟩
  unfold gAny at h
  split at h
  · obtain ⟨ns, rfl, q⟩ := h
    obtain ⟨v, rfl, hz⟩ := hd.one
    obtain ⟨a, ws, rfl, r, z⟩ := hz
    have := z.ofBls
    subst this
    exact ⟨a, ns, rfl, .of r, k _ _ H S q (.refl sh) .b⟩
  · exact h.elim
def gAll : List D → (D → Prop) → Prop
  | [.lst ds], Q => ∃ bs : List Bool, ds = bs.map D.bl ∧ Q (.bl (bs.all id))
  | _, _ => False
theorem cAll (hc : X.calm = true) : CalD X (.builtin "all") gAll := by
  refine ⟨_, cr_all hc, fun ds Q h H S vs Q' sh hd k => ?_⟩
  unfold gAll at h
  split at h
  · obtain ⟨ns, rfl, q⟩ := h
    obtain ⟨v, rfl, hz⟩ := hd.one
    obtain ⟨a, ws, rfl, r, z⟩ := hz
    have := z.ofBls
    subst this
    exact ⟨a, ns, rfl, .of r, k _ _ H S q (.refl sh) .b⟩
  · exact h.elim
end
end NL

/-! Expressions with an effect: a def that changes a slot's own list and tells a value. -/
namespace NL
open PySem PySem.Spec L2
open PyProof.Rows hiding St
variable [KC]
abbrev WM := XS → Ev → (D → Ev → Prop) → Prop
structure EM (X : Cx) (E : XK) (e : Expr) (w : WM) : Prop where
  ex : ∃ t : TE, PE X e t ∧ ∀ (x : XS) (ρ : Ev) (Q : D → Ev → Prop), w x ρ Q → ∀ (F : Fr) (σ : L2.St) (H S : Hp) (Q' : VK), Rep F ρ σ H S → (∀ ρ H S, Rep F ρ σ H S → ExOk X.mg E x H S) →
    (∀ d v ρ' H' S', Q d ρ' → Rep F ρ' σ H' S' → Same S S' → Dat S' d v → Q' v H') → t σ H Q'
section
variable {X : Cx} {E : XK} {e a b : Expr} {es : List Expr} {pos : Pos} {w wa wb : WE} {wm : WM} {wl : WL} {ws : WS} {k : Nat} {f : Addr} {fd : FuncData} {ps : List Str} {sp : SpecM} {x y : Str} {p p1 mpos : Pos}
def wmCall (i : Nat) (sp : SpecM) (wl : WL) : WM := fun x ρ Q => match ρ[i]? with
  | some (.own m (.lst xs)) => wl x ρ fun ds => AskM sp xs ds (fun ys d => Q d (ρ.set i (.own m (.lst ys)))) ⟨⟩
  | _ => False
theorem em_call (i : Nat) (G : FnOk X.prog X.w X.K X.mg X.base (L2N.CX X.prog X.w) k f fd ps (spOfM sp)) (hr : Room k X.A) (xk : XOk X E) (hg : Gl X x) (hm : X.mg x = some (.ref f)) (hk : PySem.W.keepIn X.K (.ref f) = true) (hb : Binds X.K fd ps [])
    (ha : AD X E es wl) (hN : X.N[i]? = some y := by rfl) (hv : Vis X.env.scope y := by first | exact Or.inl rfl | exact Or.inr (Or.inl rfl) | exact Or.inr (Or.inr rfl)) (hd : (y == ("__debug__" : Str)) = false := by decide) (hcd : (y == ("__classdict__" : Str)) = false := by decide)
    (hdb : (x == ("__debug__" : Str)) = false := by decide) (he : starEach (.Name y p1 :: es) X.env = (false, eval (.Name y p1) X.env) :: starEach es X.env := by rfl) (hpl : (backTo mpos (starEach es X.env)).any (·.1) = false := by rfl) :
    EM X E (.Call (.Name x p) (.Name y p1 :: es) [] mpos) (wmCall i sp wl) := by
  obtain ⟨t, pt, s⟩ := ha.ex
  have px : Passes (L2N.CX X.prog X.w) X E := xk.pass
  refine ⟨_, pe_call G hr hg hm hk hb .nil px (pa_cons (pe_var hN hv hd hcd) pt he) hdb he hpl, fun x ρ Q hw F σ H S Q' rp ex k => ?_⟩
  unfold wmCall at hw
  split at hw
  · rename_i m xs hi
    obtain ⟨l, u, e, h1, h2, ⟨us, rfl, h3⟩, _⟩ := rp.own hi
    refine ⟨.ref l, e, ?_⟩
    refine s x ρ _ hw F σ H S _ rp (ex _ _ _ rp) fun ds vs H1 S1 q1 g1 hd => ?_
    have rp1 := rp.grow g1
    refine ⟨l, us, vs, xs, ds, S1, _, by rw [List.append_nil], ⟨g1.sh, rp1.fg.tb⟩, by rw [g1.nw l (by rw [h2]; intro z; cases z)]; exact h1, g1.hh.lst h2, Dats.mono g1.ss _ _ h3, hd, q1, fun ys d v H2 S2 ws q2 g2 z1 z2 z3 => ?_⟩
    exact k d v _ H2 S2 q2 (rp1.putM hi e g2 z1 ⟨ws, rfl, z2⟩) (g1.ss.trans g2.ss) z3
  · exact hw.elim
def wmOpL (g : D → D → (D → Prop) → Prop) (wm : WM) (wb : WE) : WM := fun x ρ Q => wm x ρ fun d ρ1 => wb x ρ1 fun e => g d e fun z => Q z ρ1
theorem em_opL {op : Operator} {g : D → D → (D → Prop) → Prop} (ho : OpD X (binaryOp op) g) (ha : EM X E a wm) (hb : ED X E b wb) : EM X E (.BinOp a op b pos) (wmOpL g wm wb) := by
  obtain ⟨r, o, so⟩ := ho.ex
  obtain ⟨ta, pa, sa⟩ := ha.ex
  obtain ⟨tb, pb, sb⟩ := hb.ex
  refine ⟨_, pe_op o pa pb, fun x ρ Q hw F σ H S Q' rp ex k => ?_⟩
  refine sa x ρ _ hw F σ H S _ rp ex fun d u ρ1 H1 S1 q1 r1 e1 h1 => ?_
  refine sb x ρ1 _ q1 F σ H1 S1 _ r1 (ex _ _ _ r1) fun e v H2 S2 q2 g2 h2 => ?_
  refine so d e _ q2 H2 S2 u v Q' g2.sh (BDat.of g2.sh (Dat.mono g2.ss _ _ h1)) (BDat.of g2.sh h2) fun z y H3 S3 q3 g3 h3 => ?_
  exact k z y ρ1 H3 S3 q3 ((r1.grow g2).grow g3) ((e1.trans g2.ss).trans g3.ss) h3
def wmOpR (g : D → D → (D → Prop) → Prop) (wa : WE) (wm : WM) : WM := fun x ρ Q => wa x ρ fun d => wm x ρ fun e ρ1 => g d e fun z => Q z ρ1
theorem em_opR {op : Operator} {g : D → D → (D → Prop) → Prop} (ho : OpD X (binaryOp op) g) (ha : ED X E a wa) (hb : EM X E b wm) : EM X E (.BinOp a op b pos) (wmOpR g wa wm) := by
  obtain ⟨r, o, so⟩ := ho.ex
  obtain ⟨ta, pa, sa⟩ := ha.ex
  obtain ⟨tb, pb, sb⟩ := hb.ex
  refine ⟨_, pe_op o pa pb, fun x ρ Q hw F σ H S Q' rp ex k => ?_⟩
  refine sa x ρ _ hw F σ H S _ rp (ex _ _ _ rp) fun d u H1 S1 q1 g1 h1 => ?_
  refine sb x ρ _ q1 F σ H1 S1 _ (rp.grow g1) ex fun e v ρ1 H2 S2 q2 r2 e2 h2 => ?_
  refine so d e _ q2 H2 S2 u v Q' r2.sh (BDat.of r2.sh (Dat.mono e2 _ _ h1)) (BDat.of r2.sh h2) fun z y H3 S3 q3 g3 h3 => ?_
  exact k z y ρ1 H3 S3 q3 (r2.grow g3) ((g1.ss.trans e2).trans g3.ss) h3
def wmIxR (wa : WE) (wm : WM) : WM := fun x ρ Q => wa x ρ fun d => wm x ρ fun e ρ1 => match d, e with
  | .str z, .int i => z.length ≤ sizeLine ∧ ∃ c, atI z.cps.toList i = some c ∧ Q (.str ⟨#[c]⟩) ρ1
  | .lst xs, .int i => ∃ d, atI xs i = some d ∧ Q d ρ1
  | _, _ => False
theorem em_ixR (ha : ED X E a wa) (hb : EM X E b wm) (hs : PlainIx b := by exact fun _ _ => rfl) : EM X E (.Subscript a b pos) (wmIxR wa wm) := by
  obtain ⟨ta, pa, sa⟩ := ha.ex
  obtain ⟨tb, pb, sb⟩ := hb.ex
  refine ⟨_, pe_ix (ix_str.or ix_list) pa pb hs, fun x ρ Q hw F σ H S Q' rp ex k => ?_⟩
  refine sa x ρ _ hw F σ H S _ rp (ex _ _ _ rp) fun d u H1 S1 q1 g1 h1 => ?_
  refine sb x ρ _ q1 F σ H1 S1 _ (rp.grow g1) ex fun e v ρ1 H2 S2 q2 r2 e2 h2 => ?_
  have h1 := Dat.mono e2 _ _ h1
  split at q2
  · obtain ⟨hz, c, hc, q⟩ := q2
    unfold Dat at h1 h2
    subst h1 h2
    exact .inl ⟨_, _, c, rfl, rfl, hz, hc, k _ _ ρ1 H2 S2 q r2 (g1.ss.trans e2) .s⟩
  · obtain ⟨d, hd, q⟩ := q2
    unfold Dat at h1 h2
    subst h2
    obtain ⟨p, vs, rfl, r, z⟩ := h1
    obtain ⟨y, hy, hz⟩ := atI_dats z hd
    exact .inr ⟨p, vs, _, y, rfl, rfl, .of (r2.sh _ _ r), hy, k _ _ ρ1 H2 S2 q r2 (g1.ss.trans e2) hz⟩
  · exact q2.elim
def wmTup2 (wa : WE) (wm : WM) : WM := fun x ρ Q => wa x ρ fun d => wm x ρ fun e ρ1 => Q (.tup [d, e]) ρ1
theorem em_tup2 {k1} (ha : ED X E a wa) (hb : EM X E b wm) (he : starEach (a :: [b]) X.env = (false, eval a X.env) :: starEach [b] X.env := by rfl) (he2 : starEach (b :: []) X.env = (false, eval b X.env) :: starEach [] X.env := by rfl) :
    EM X E (.Tuple [a, b] k1 pos) (wmTup2 wa wm) := by
  obtain ⟨ta, pa, sa⟩ := ha.ex
  obtain ⟨tb, pb, sb⟩ := hb.ex
  refine ⟨_, pe_tup (pa_cons pa (pa_cons pb pa_nil he2) he), fun x ρ Q hw F σ H S Q' rp ex k => ?_⟩
  refine sa x ρ _ hw F σ H S _ rp (ex _ _ _ rp) fun d u H1 S1 q1 g1 h1 => ?_
  refine sb x ρ _ q1 F σ H1 S1 _ (rp.grow g1) ex fun e v ρ1 H2 S2 q2 r2 e2 h2 => ⟨(by decide : 2 ≤ 16777216), fun p hp => ?_⟩
  obtain ⟨g, y⟩ := lay_tup r2.sh hp (Dats.cons (Dat.mono e2 _ _ h1) (.one h2))
  exact k _ _ ρ1 _ _ q2 (r2.grow g) ((g1.ss.trans e2).trans g.ss) y
def wsSetM (i : Nat) (wm : WM) : WS := fun q ρ => wm q.ex ρ fun d ρ1 => q.nx (ρ1.set i (.fz d))
theorem sd_setM (i : Nat) (hN : X.N.Nodup) (he : EM X E e wm) (hi : X.N[i]? = some x := by rfl) (hx : Loc X.env.scope x := by first | exact Or.inl rfl | exact Or.inr rfl) (hs : swapsWith e (some (.Name x p)) pos.line X.env = pure false := by rfl)
    (hf : X.fn x = true ∨ X.env.scope.names.lookup x = some .local := by first | exact .inl rfl | exact .inr rfl) : SD X E (.Assign [.Name x p] e pos) (wsSetM i wm) := by
  obtain ⟨t, pe, s⟩ := he.ex
  refine ⟨_, ps_set hN hi hx pe hs hf, fun q ρ hw F σ H S D rp o => ?_⟩
  exact s q.ex ρ _ hw F σ H S _ rp (fun _ _ _ r => o.exOk r) fun d v ρ1 H1 S1 q1 r1 e1 h1 => o.nx _ _ H1 S1 q1 (r1.set h1)
/-- l.append(e), l a slot's own list, e with an effect on another one -/
def wsAppM (i : Nat) (wm : WM) : WS := fun q ρ => match ρ[i]? with
  | some (.own _ (.lst _)) => wm q.ex ρ fun d ρ1 => match ρ1[i]? with
    | some (.own m (.lst xs)) => xs.length < sizeLine ∧ q.nx (ρ1.set i (.own m (.lst (xs ++ [d]))))
    | _ => False
  | _ => False
theorem sd_appM (i : Nat) {apos : Pos} (ha : EM X E e wm)
    (hN : X.N[i]? = some x := by rfl) (hv : Vis X.env.scope x := by first | exact Or.inl rfl | exact Or.inr (Or.inl rfl) | exact Or.inr (Or.inr rfl)) (hd : (x == ("__debug__" : Str)) = false := by decide) (hcd : (x == ("__classdict__" : Str)) = false := by decide)
    (hbase : attributeBase (.Name x p) "append" X.env (eval (.Name x p) X.env) = eval (.Name x p) X.env := by rfl)
    (hfew : ((backTo mpos (starEach (e :: []) X.env)).all (fun x => !x.1) && (backToKw mpos (keywordEach [] X.env)).all (fun x => x.1.isSome)
      && decide ((e :: ([] : List Expr)).length + ([] : List Keyword).length + (if ([] : List Keyword).isEmpty then 0 else 1) < 30)) = true := by rfl)
    (hline : (apos.endLine == mpos.line) = true := by rfl) (hst : starEach (e :: []) X.env = (false, eval e X.env) :: starEach [] X.env := by rfl) (hplain : (backTo mpos (starEach ([] : List Expr) X.env)).any (·.1) = false := by rfl)
    (hs : swapsWith (.Call (.Attribute (.Name x p) "append" apos) [e] [] mpos) none pos.line X.env = pure false := by rfl) :
    SD X E (.Expr (.Call (.Attribute (.Name x p) "append" apos) [e] [] mpos) pos) (wsAppM i wm) := by
  obtain ⟨t, pt, s⟩ := ha.ex
  refine ⟨_, ps_expr (pe_bm PySem.F.plainAttrs_list PySem.F.slot_list_append PySem.F.type_list_append mt_append (pe_var hN hv hd hcd) (pa_cons pt pa_nil hst) hbase hfew hline hst hplain) hs, fun q ρ hw F σ H S D rp o => ?_⟩
  unfold wsAppM at hw
  split at hw
  case h_2 => exact hw.elim
  rename_i m0 xs0 hi0
  obtain ⟨l, u, e, h1, h2, ⟨us, rfl, h3⟩, _⟩ := rp.own hi0
  refine ⟨.ref l, e, .inl ⟨rfl, _, .of h2⟩, ?_⟩
  refine s q.ex ρ _ hw F σ H S _ rp (fun _ _ _ r => o.exOk r) fun d v ρ1 H1 S1 q1 r1 e1 hd1 => ?_
  split at q1
  · rename_i m xs hi
    obtain ⟨l', u', e', z1, z2, ⟨us', rfl, z3⟩, _⟩ := r1.own hi
    have : l' = l := by
      rw [e] at e'
      cases e'
      rfl
    subst this
    exact ⟨l', us', v, rfl, rfl, z2, by rw [z3.len]; exact q1.1, o.nx _ _ _ S1 q1.2 (r1.put (o' := .lst (us' ++ [v])) hi e' ⟨_, rfl, z3.app (.one hd1)⟩)⟩
  · exact q1.elim
/-- for x in range(e), e with an effect -/
def wForM (wm : WM) (g : WG) (wb : WS) : WS := fun q ρ => wm q.ex ρ fun d ρ1 => match d with
  | .int n => smallI n ∧ loopL g wb q (rngD 0 1 n.toNat) ρ1
  | _ => False
theorem sd_forM {tg : Expr} {is : List Nat} {g : WG} {body : List Stmt} (hg0 : Gl X "range") (hm0 : X.mg "range" = none) (xk : XOk X E) (hc : X.calm = true) (ha : EM X E a wm) (hg : GD X tg is g) (hb : SDs X E body ws)
    (hs1 : starEach [a] X.env = [(false, eval a X.env)] := by rfl) (he : starEach (a :: []) X.env = (false, eval a X.env) :: starEach [] X.env := by rfl)
    (hs : ∀ x, foldedSetIterable (.Call (.Name "range" p) [a] [] mpos) X.env x = pure x := by intro _; rfl) :
    SD X E (.For tg (.Call (.Name "range" p) [a] [] mpos) body [] pos) (wForM wm g ws) := by
  obtain ⟨ti, pti, si⟩ := ha.ex
  obtain ⟨tg, pg, sg⟩ := hg.ex
  obtain ⟨tb, pb, sb⟩ := hb.ex
  refine ⟨_, ps_for xk.own hc (pi_range1 hg0 hm0 (pa_cons pti pa_nil he) hs1) pg pb hs, fun q ρ0 hw F σ H S D rp o => ?_⟩
  refine si q.ex ρ0 _ hw F σ H S _ rp (fun _ _ _ r => o.exOk r) fun d v ρ H1 S1 q1 rp1 e1 h1 => ?_
  cases d with
  | int n =>
    unfold Dat at h1
    subst h1
    obtain ⟨⟨n1, n2⟩, q1⟩ := q1
    refine ⟨n, rfl, n1, n2, ?_⟩
    have hJ : ItOk (Itr 0 n.toNat) S1 (rngD 0 1 n.toNat) := it_rng
    generalize rngD 0 1 n.toNat = ds at q1 hJ
    have ss1 := rp1.fg.ss
    have nw1 := rp1.fg.nw
    let W : Nat → Nat → L2.St → Hp → Prop := fun i m σ H => m = ds.length - i ∧ i ≤ ds.length ∧ ∃ ρ S, Rep { F with S0 := S1 } ρ σ H S ∧ loopL g ws q (ds.drop i) ρ
    refine ⟨W, ⟨ds.length, by simp, Nat.zero_le _, ρ, S1, rep_to rp1, q1⟩, ?_⟩
    rintro i m σ2 H2 ⟨rfl, hi, ρ2, S2, r2, hl⟩
    rcases Nat.lt_or_ge i ds.length with hlt | hge
    · obtain ⟨d, hdi⟩ : ∃ d, ds[i]? = some d := ⟨_, List.getElem?_eq_getElem hlt⟩
      obtain ⟨go, yl⟩ := (hJ i H2 S2 r2.fg.ss r2.fg.sh).1 d hdi
      have hdrop : ds.drop i = d :: ds.drop (i + 1) := by
        rw [List.drop_eq_getElem_cons hlt]
        congr 1
        rw [List.getElem?_eq_getElem hlt] at hdi
        exact Option.some.inj hdi
      rw [hdrop] at hl
      refine .inr ⟨go, W (i + 1) (ds.length - (i + 1)), fun σ' H' h => ⟨_, by omega, h⟩, fun x H' y => ?_⟩
      obtain ⟨S', g', dx⟩ := yl x H' y
      refine sg d ρ2 _ hl { F with S0 := S1 } σ2 H' S' x _ (r2.grow g') dx fun ρ3 σ3 h3 r3 _ => ?_
      refine sb _ ρ3 h3 { F with S0 := S1 } σ3 H' S' _ r3 ⟨fun ρ4 σ4 H4 S4 q4 r4 => ⟨rfl, hlt, ρ4, S4, r4, q4⟩, fun r ρ4 v σ4 H4 S4 q4 r4 p4 => o.rt r ρ4 v σ4 H4 S4 q4 (rep_in r4 ss1 nw1) p4,
        fun ρ4 σ4 H4 S4 q4 r4 => o.nx ρ4 σ4 H4 S4 q4 (rep_in r4 ss1 nw1), fun ρ4 σ4 H4 S4 q4 r4 => ⟨rfl, hlt, ρ4, S4, r4, q4⟩, fun n C H4 S4 h1 h2 h3 => o.ex n C H4 S4 h1 h2 (fg_in h3 ss1 nw1)⟩
    · have e : i = ds.length := by omega
      subst e
      rw [List.drop_length] at hl
      exact .inl ⟨(hJ _ H2 S2 r2.fg.ss r2.fg.sh).2 (Nat.le_refl _), o.nx ρ2 σ2 H2 S2 hl (rep_in r2 ss1 nw1)⟩
  | _ => exact q1.elim
end
end NL

namespace NL
open PySem PySem.Spec L2
open PyProof.Rows hiding St

/-! ### the law's own promise -/
def SP_law : Spec := fun ds _ R => ∃ ns, ds = [.scr ns] ∧ ns.length ≤ 63 ∧ R (.val (.bl true))
theorem len_law (ds : List D) (x : XS) (R : Rt → Prop) (h : SP_law ds x R) : ds.length = ["_law_script"].length := by
  obtain ⟨ns, rfl, _⟩ := h
  rfl
def spLaw (K : PySem.W.Frag) : Sp := fun vs H Q _ => ∃ (a : Addr) (ns : List Int), vs = [.ref a] ∧ SqL K H a (ns.map V.int) ∧ ns.length ≤ 63 ∧ ∀ H', Q (.bl true) H'
theorem law_in {K : PySem.W.Frag} {H : Hp} {a : Addr} {ns : List Int} (hl : ns.length ≤ 63) (hS : SqL K H a (ns.map V.int)) : spLaw K [.ref a] H (fun v _ => v = .bl true) fun _ _ _ => False :=
  ⟨a, ns, rfl, hS, hl, fun _ => rfl⟩
theorem law_cx {P : Program} {w : World} {H : Hp} {s s' : Shared} {e : Value} (h : L2N.CX P w [] H s (fun _ _ _ => False) e s') : False := by
  obtain ⟨_, _, _, _, _, _, _, _, _, _, _, _, z⟩ := h
  exact z
theorem law_F {P : Program} {w : World} {K : PySem.W.Frag} {mg : Str → Option Value} {fl : Addr} {k : Nat} {x : Str}
    {ca : Str → Addr}
    (h : ∃ fd : FuncData, (∀ (s : Shared) (v : Value), BindsTo s fd ⟨[v], []⟩ [(x, v)]) ∧ ∀ base : Heap, K.In base → base.Ns mainGlobals mg → FnOk P w K mg base (L2N.CX P w) k fl fd [x] (@spOf ⟨K, [], ca⟩ mg SP_law)) :
    ∃ fd : FuncData, (∀ (s : Shared) (v : Value), BindsTo s fd ⟨[v], []⟩ [(x, v)]) ∧ ∀ base : Heap, K.In base → base.Ns mainGlobals mg → FnOk P w K mg base (L2N.CX P w) k fl fd [x] (spLaw K) := by
  obtain ⟨fd, h1, h2⟩ := h
  refine ⟨fd, h1, fun base b1 b2 => (h2 base b1 b2).imp fun vs H Q E h => ?_⟩
  obtain ⟨a, ns, rfl, hS, hl, q⟩ := h
  letI : KC := ⟨K, [], ca⟩
  refine ⟨[.scr ns], H, fun _ => False, fun r => r = .val (.bl true), ⟨.refl _, (fun _ h => by cases h), (fun _ h => by cases h)⟩, .one ?_, ⟨ns, rfl, hl, rfl⟩, fun r v H' S' e _ h => ?_, fun _ _ _ _ z => z.elim⟩
  · unfold Dat
    exact ⟨a, rfl, hS⟩
  · subst e
    have h' : Dat S' (.bl true) v := h
    unfold Dat at h'
    subst h'
    exact q H'
end NL

namespace NL
open PySem PySem.Spec L2
open PyProof.Rows hiding St

/-! ### typed data -/
abbrev Pc := Str × Int
def dP (p : Pc) : D := .tup [.str p.1, .int p.2]
def dC (c : List Pc) : D := .lst (c.map dP)
def dI (c : List Int) : D := .lst (c.map D.int)
def rng (lo c : Int) (n : Nat) : List Int := (List.range n).map fun (i : Nat) => lo + (i : Int) * c
theorem rngD_eq {lo c : Int} {n : Nat} : rngD lo c n = (rng lo c n).map D.int := by
  unfold rngD rng
  rw [List.map_map]
  rfl
theorem mem_rng {lo c k : Int} {n : Nat} (h : k ∈ rng lo c n) : ∃ i : Nat, i < n ∧ k = lo + (i : Int) * c := by
  unfold rng at h
  obtain ⟨i, hi, e⟩ := List.mem_map.mp h
  exact ⟨i, List.mem_range.mp hi, e.symm⟩
theorem rng_len {lo c : Int} {n : Nat} : (rng lo c n).length = n := by simp [rng]
theorem rng0 {lo c : Int} : rng lo c 0 = [] := rfl
theorem rng_succ {lo c : Int} {n : Nat} : rng lo c (n + 1) = lo :: rng (lo + c) c n := by
  unfold rng
  rw [List.range_succ_eq_map, List.map_cons, List.map_map]
  congr 1
  · simp
  · apply List.map_congr_left
    intro i _
    simp only [Function.comp, Int.natCast_succ]
    rw [Int.add_mul]
    omega
theorem kit1 : kitB "list" "list" = some true := by decide +kernel
theorem kit2 : kitB "tuple" "tuple" = some true := by decide +kernel
theorem kit3 : kitB "str" "str" = some true := by decide +kernel
theorem kit4 : kitB "int" "int" = some true := by decide +kernel
theorem kit5 : kitB "int" "bool" = some false := by decide +kernel
theorem kit6 : kitB "bool" "bool" = some true := by decide +kernel
theorem kit7 : kitB "bool" "int" = some true := by decide +kernel
theorem kit8 : kitB "str" "list" = some false := by decide +kernel
theorem kit9 : kitB "NoneType" "list" = some false := by decide +kernel
theorem kit10 : kitB "NoneType" "int" = some false := by decide +kernel
theorem kit11 : kitB "NoneType" "str" = some false := by decide +kernel
theorem kit12 : kitB "NoneType" "tuple" = some false := by decide +kernel
theorem kit13 : kitB "int" "str" = some false := by decide +kernel
theorem kit14 : kitB "int" "list" = some false := by decide +kernel
theorem kit15 : kitB "int" "tuple" = some false := by decide +kernel
theorem kit16 : kitB "bool" "str" = some false := by decide +kernel
theorem kit17 : kitB "bool" "list" = some false := by decide +kernel
theorem kit18 : kitB "bool" "tuple" = some false := by decide +kernel
theorem kit19 : kitB "str" "int" = some false := by decide +kernel
theorem kit20 : kitB "str" "bool" = some false := by decide +kernel
theorem kit21 : kitB "str" "tuple" = some false := by decide +kernel
theorem kit22 : kitB "list" "str" = some false := by decide +kernel
theorem kit23 : kitB "list" "int" = some false := by decide +kernel
theorem kit24 : kitB "list" "bool" = some false := by decide +kernel
theorem kit25 : kitB "list" "tuple" = some false := by decide +kernel
theorem kit26 : kitB "tuple" "str" = some false := by decide +kernel
theorem kit27 : kitB "tuple" "int" = some false := by decide +kernel
theorem kit28 : kitB "tuple" "bool" = some false := by decide +kernel
theorem kit29 : kitB "tuple" "list" = some false := by decide +kernel
theorem kit30 : kitB "NoneType" "bool" = some false := by decide +kernel
theorem kit31 : kitB "dict" "str" = some false := by decide +kernel
theorem kit32 : kitB "dict" "list" = some false := by decide +kernel
theorem kit33 : kitB "dict" "tuple" = some false := by decide +kernel
theorem kit34 : kitB "dict" "int" = some false := by decide +kernel
theorem kit35 : kitB "dict" "bool" = some false := by decide +kernel

theorem castN (n : Nat) : ((no_index (OfNat.ofNat n) : Nat) : Int) = OfNat.ofNat n := rfl
/-! ### places -/
theorem atI_in {α : Type} {xs : List α} {i : Int} (h0 : 0 ≤ i) (h : i < xs.length) : ∃ a, atI xs i = some a ∧ a ∈ xs := by
  have hi : i.toNat < xs.length := by omega
  refine ⟨xs[i.toNat], ?_, List.getElem_mem hi⟩
  have := atI_nat (List.getElem?_eq_getElem hi)
  rw [Int.toNat_of_nonneg h0] at this
  exact this
theorem atI_at {α : Type} {xs : List α} {i : Int} {j : Nat} (h : i = j) (hj : j < xs.length) : atI xs i = some xs[j] := by
  rw [h]
  exact atI_nat (List.getElem?_eq_getElem hj)
theorem atI_neg1 {α : Type} {xs : List α} : atI xs (-1) = xs.getLast? := by
  rcases List.eq_nil_or_concat xs with h | ⟨r, a, h⟩
  · rw [h]; rfl
  · rw [h]
    have := atI_last r a
    simpa using this
theorem atI_rev1 {α : Type} {xs : List α} : atI xs.reverse (-1) = xs.head? := by
  rw [atI_neg1, List.getLast?_reverse]

/-! ### texts by their signs -/
def tx (l : List Nat) : Str := ⟨l.toArray⟩
theorem tx_cps {l : List Nat} : (tx l).cps.toList = l := by simp [tx]
theorem tx_len {l : List Nat} : (tx l).length = l.length := by
  show l.toArray.size = _
  simp
theorem tx_app {a b : List Nat} : tx a ++ tx b = tx (a ++ b) := by
  show (⟨a.toArray ++ b.toArray⟩ : Str) = ⟨_⟩
  simp
theorem tx_of (s : Str) : s = tx s.cps.toList := by
  cases s
  simp [tx]
theorem tx_inj {a b : List Nat} : tx a = tx b ↔ a = b := by
  constructor
  · intro h
    rw [← tx_cps (l := a), h, tx_cps]
  · rintro rfl; rfl
theorem tx_one {c : Nat} : (⟨#[c]⟩ : Str) = tx [c] := rfl
theorem tx_nil : (⟨#[]⟩ : Str) = tx [] := rfl
theorem tx_cut {l : List Nat} {lo hi : Option Int} : cutS (tx l) lo hi = tx (cut l lo hi) := by
  unfold cutS cut
  rw [tx_cps, tx_len]
  rfl
theorem tx_signs {l : List Nat} : signs (tx l) = l.map fun c => .str (tx [c]) := by
  unfold signs
  rw [tx_cps]
  rfl
theorem tx_rep {n : Nat} {l : List Nat} : srep n (tx l) = tx (List.replicate n l).flatten := by
  unfold srep
  rw [tx_cps]
  rfl
theorem lit_empty : Str.ofString "" = tx [] := by decide +kernel
theorem az_cps : (Str.ofString "abcdefghijklmnopqrstuvwxyz").cps.toList = (List.range 26).map fun i => 97 + i := by decide +kernel
theorem abcz_cps : (Str.ofString "abcz").cps.toList = [97, 98, 99, 122] := by decide +kernel
theorem tx_ok {l : List Nat} (h : ∀ c ∈ l, 97 ≤ c ∧ c ≤ 122) : PyData.strOk (tx l) = true := by
  simp only [PyData.strOk, tx, List.all_toArray, List.all_eq_true]
  intro c hc
  have := h c hc
  simp
  omega
/-! ### products that are small -/
theorem log2_lt {i : Int} {n : Nat} (h : i.natAbs < 2 ^ (n + 1)) : i.natAbs.log2 ≤ n := by
  rcases Nat.eq_zero_or_pos i.natAbs with z | z
  · rw [z]; simp
  · have := (Nat.log2_lt (by omega)).mpr h
    omega
theorem mulWn {i j : Int} {a b : Nat} (h1 : i.natAbs < 2 ^ (a + 1)) (h2 : j.natAbs < 2 ^ (b + 1)) (h : a + b < 1000000) : CMulW i j := by
  have x := log2_lt h1
  have y := log2_lt h2
  show _ + _ < 1000000
  omega
theorem mulW {i j : Int} (h1 : i.natAbs < 2 ^ 201) (h2 : j.natAbs < 2 ^ 201) : CMulW i j := by
  have a := log2_lt h1
  have b := log2_lt h2
  show _ + _ < 1000000
  omega
theorem divW {i j : Int} (h0 : 0 < j) (h2 : j.natAbs < 2 ^ 201) : CDivW i j := ⟨h0, by have := log2_lt h2; omega⟩

theorem divW_eq {i j : Int} (h0 : 0 < j) (h2 : j < 1606938044258990275541962092341162602522202993782792835301376) : CDivW i j = True := by
  have e : (2 : Nat) ^ 201 = 3213876088517980551083924184682325205044405987565585670602752 := by decide
  exact eq_true (divW h0 (by omega))
theorem mulW_eq {i j : Int} (h0 : -1606938044258990275541962092341162602522202993782792835301376 < i) (h1 : i < 1606938044258990275541962092341162602522202993782792835301376) (h2 : -1606938044258990275541962092341162602522202993782792835301376 < j) (h3 : j < 1606938044258990275541962092341162602522202993782792835301376) : CMulW i j = True := by
  have e : (2 : Nat) ^ 201 = 3213876088517980551083924184682325205044405987565585670602752 := by decide
  exact eq_true (mulW (by omega) (by omega))
theorem divWs {i j : Int} (h0 : 0 < j) (h2 : j < 1000000000000) : CDivW i j := of_eq_true (divW_eq h0 (by omega))
/-! ### data that is told apart -/
def OkC (c : List Pc) : Prop := ∀ p ∈ c, PyData.strOk p.1 = true
theorem nb_dP {p : Pc} {n : Nat} (h : PyData.strOk p.1 = true) : nb (n + 2) (dP p) = true := by simp [dP, nb, h]
theorem nb_dC {c : List Pc} {n : Nat} (h : OkC c) : nb (n + 3) (dC c) = true := by
  simp only [dC, nb, List.all_map, List.all_eq_true]
  exact fun p hp => nb_dP (h p hp)
theorem dP_inj {p q : Pc} : dP p = dP q ↔ p = q := by
  constructor
  · intro h
    simp [dP] at h
    exact Prod.ext h.1 h.2
  · rintro rfl; rfl
theorem map_inj {α β : Type} {f : α → β} (hf : ∀ a b, f a = f b ↔ a = b) : ∀ {xs ys : List α}, xs.map f = ys.map f ↔ xs = ys
  | [], [] => by simp
  | [], _ :: _ => by simp
  | _ :: _, [] => by simp
  | x :: xs, y :: ys => by
    simp only [List.map_cons, List.cons.injEq, hf, map_inj hf]
theorem dC_inj {a b : List Pc} : dC a = dC b ↔ a = b := by
  simp only [dC, D.lst.injEq]
  exact map_inj fun _ _ => dP_inj
theorem deq_dec {a b : D} {p : Prop} [Decidable p] (h : a = b ↔ p) : deq a b = decide p := by
  unfold deq
  rw [Bool.eq_iff_iff]
  simp [h]
theorem deq_dC {a b : List Pc} : deq (dC a) (dC b) = decide (a = b) := deq_dec dC_inj
theorem map_snocI {xs : List Int} {y : Int} : List.map D.int xs ++ [D.int y] = List.map D.int (xs ++ [y]) := by simp
theorem deqC {a b : List Pc} : deq (.lst (a.map dP)) (.lst (b.map dP)) = decide (a = b) := deq_dC
theorem deq_self {d : D} : deq d d = true := by simp [deq]
theorem nbC {c : List Pc} (h : OkC c) : nb 20 (.lst (c.map dP)) = true := nb_dC (n := 17) h
theorem rep_map {α β : Type} {f : α → β} {n : Nat} {xs : List α} : (List.replicate n (xs.map f)).flatten = ((List.replicate n xs).flatten).map f := by
  induction n with
  | zero => rfl
  | succ n ih => simp only [List.replicate_succ, List.flatten_cons, ih, List.map_append]
theorem rep_len {α : Type} {n : Nat} {xs : List α} : (List.replicate n xs).flatten.length = n * xs.length := by
  induction n with
  | zero => simp
  | succ n ih => rw [List.replicate_succ, List.flatten_cons, List.length_append, ih, Nat.succ_mul]; omega
theorem rep_mem {α : Type} {n : Nat} {xs : List α} {a : α} (h : a ∈ (List.replicate n xs).flatten) : a ∈ xs := by
  obtain ⟨l, hl, ha⟩ := List.mem_flatten.mp h
  rw [List.mem_replicate] at hl
  rw [hl.2] at ha
  exact ha
theorem nls_dP : ∀ {c : List Pc}, nls (c.map dP) = true
  | [] => rfl
  | p :: c => by simp [nls, nl, dP, nls_dP]
/-- one letter -/
def isNail (s : Str) : Prop := ∃ ch, s = tx [ch] ∧ 97 ≤ ch ∧ ch ≤ 122
theorem isNail.ok {s : Str} (h : isNail s) : PyData.strOk s = true := by
  obtain ⟨ch, rfl, h1, h2⟩ := h
  simp [PyData.strOk, tx]
  omega
/-- a good piece: a nail, turns of at most so many -/
def Gd (b : Int) (p : Pc) : Prop := isNail p.1 ∧ -b ≤ p.2 ∧ p.2 ≤ b
def Gds (b : Int) (c : List Pc) : Prop := ∀ p ∈ c, Gd b p
theorem Gds.ok {b : Int} {c : List Pc} (h : Gds b c) : OkC c := fun p hp => (h p hp).1.ok
theorem Gds.nil {b : Int} : Gds b [] := fun _ h => by cases h
theorem Gds.app {b : Int} {c d : List Pc} (h : Gds b c) (g : Gds b d) : Gds b (c ++ d) := fun p hp => (List.mem_append.mp hp).elim (h p) (g p)
theorem Gds.sub {b : Int} {c d : List Pc} (h : Gds b c) (g : ∀ p ∈ d, p ∈ c) : Gds b d := fun p hp => h p (g p hp)
theorem Gds.mono {b b' : Int} {c : List Pc} (h : Gds b c) (g : b ≤ b') : Gds b' c := fun p hp => ⟨(h p hp).1, by have := (h p hp).2; omega, by have := (h p hp).2; omega⟩
theorem cut_mem {α : Type} {xs : List α} {l h : Option Int} {a : α} (m : a ∈ cut xs l h) : a ∈ xs := List.mem_of_mem_drop (List.mem_of_mem_take m)
theorem cut_len {α : Type} {xs : List α} {l h : Option Int} : (cut xs l h).length ≤ xs.length := by
  unfold cut
  rw [List.length_take, List.length_drop]
  omega
theorem cut_to {α : Type} {xs : List α} {n : Int} (h0 : 0 ≤ n) : cut xs none (some n) = xs.take n.toNat := by
  unfold cut
  rw [HT.sIx_none]
  have e : HT.sIx xs.length xs.length (some n) = min n.toNat xs.length := by
    have := HT.sIx_nat xs.length xs.length n.toNat
    rw [Int.toNat_of_nonneg h0] at this
    exact this
  rw [e, List.drop_zero, Nat.sub_zero]
  rcases Nat.le_total n.toNat xs.length with z | z
  · rw [Nat.min_eq_left z]
  · rw [Nat.min_eq_right z, List.take_of_length_le (Nat.le_refl _), List.take_of_length_le z]
theorem cut_from {α : Type} {xs : List α} {n : Int} (h0 : 0 ≤ n) : cut xs (some n) none = xs.drop n.toNat := by
  unfold cut
  rw [HT.sIx_none]
  have e : HT.sIx xs.length 0 (some n) = min n.toNat xs.length := by
    have := HT.sIx_nat xs.length 0 n.toNat
    rw [Int.toNat_of_nonneg h0] at this
    exact this
  rw [e]
  rcases Nat.le_total n.toNat xs.length with z | z
  · rw [Nat.min_eq_left z, List.take_of_length_le (by rw [List.length_drop]; omega)]
  · rw [Nat.min_eq_right z, List.drop_of_length_le (Nat.le_refl _), List.drop_of_length_le z]
    simp
theorem cut_last {α : Type} {xs : List α} {y : α} : cut (xs ++ [y]) (some (-1)) none = [y] := by
  unfold cut
  rw [HT.sIx_none]
  have e : HT.sIx (xs ++ [y]).length 0 (some (-1)) = xs.length := by
    show (if (-1 : Int) < 0 then ((-1 : Int) + ((xs ++ [y]).length : Int)).toNat else min (-1 : Int).toNat (xs ++ [y]).length) = _
    rw [if_pos (by decide), List.length_append]
    simp
    omega
  rw [e]
  simp
theorem cut_nil {α : Type} {lo hi : Option Int} : cut ([] : List α) lo hi = [] := by simp [cut]
theorem cut_fromTo {α : Type} {xs : List α} {m n : Int} (h0 : 0 ≤ m) (h1 : 0 ≤ n) : cut xs (some m) (some n) = (xs.take n.toNat).drop m.toNat := by
  unfold cut
  have e : HT.sIx xs.length 0 (some m) = min m.toNat xs.length := by
    have := HT.sIx_nat xs.length 0 m.toNat
    rw [Int.toNat_of_nonneg h0] at this
    exact this
  have e2 : HT.sIx xs.length xs.length (some n) = min n.toNat xs.length := by
    have := HT.sIx_nat xs.length xs.length n.toNat
    rw [Int.toNat_of_nonneg h1] at this
    exact this
  rw [e, e2, List.drop_take]
  apply List.ext_getElem?
  intro i
  rw [List.getElem?_take, List.getElem?_take, List.getElem?_drop, List.getElem?_drop]
  rcases Nat.le_total m.toNat xs.length with z | z
  · rw [Nat.min_eq_left z]
    rcases Nat.le_total n.toNat xs.length with z2 | z2
    · rw [Nat.min_eq_left z2]
    · rw [Nat.min_eq_right z2]
      split <;> split <;> first | rfl | omega | (rw [List.getElem?_eq_none (by omega)]) | (symm; rw [List.getElem?_eq_none (by omega)])
  · rw [Nat.min_eq_right z, List.getElem?_eq_none (by omega : xs.length ≤ xs.length + i), List.getElem?_eq_none (by omega : xs.length ≤ m.toNat + i)]
    split <;> split <;> rfl
/-- a comprehension that takes each item to one -/
theorem compL_map {α : Type} {g : WG} {we : WE} {ρ : Ev} {Q : List D → Prop} (f : α → D) (h : α → D) (he : ∀ a (Q' : D → Prop), Q' (h a) → g (f a) ρ fun ρ2 => we X0 ρ2 Q') : ∀ (xs : List α) (acc : List D), acc.length + xs.length ≤ sizeLine → Q (acc ++ xs.map h) → compL g wtYes we ρ Q (xs.map f) acc
  | [], acc, _, q => by simpa [compL] using q
  | a :: xs, acc, hl, q => by
    simp only [List.map_cons, compL, wtYes, Br_true]
    refine he a _ ⟨by simp at hl; omega, compL_map f h he xs (acc ++ [h a]) (by simp at hl ⊢; omega) (by simpa using q)⟩
theorem compL_map' {α : Type} {g : WG} {we : WE} {ρ : Ev} {Q : List D → Prop} (f : α → D) (h : α → D) : ∀ (xs : List α) (acc : List D), (∀ a ∈ xs, ∀ (Q' : D → Prop), Q' (h a) → g (f a) ρ fun ρ2 => we X0 ρ2 Q') → acc.length + xs.length ≤ sizeLine → Q (acc ++ xs.map h) → compL g wtYes we ρ Q (xs.map f) acc
  | [], acc, _, _, q => by simpa [compL] using q
  | a :: xs, acc, he, hl, q => by
    simp only [List.map_cons, compL, wtYes, Br_true]
    refine he a (by simp) _ ⟨by simp at hl; omega, compL_map' f h xs (acc ++ [h a]) (fun b hb => he b (by simp [hb])) (by simp at hl ⊢; omega) (by simpa using q)⟩
theorem compL_filter {α : Type} {g : WG} {wt : WT} {we : WE} {ρ : Ev} {Q : List D → Prop} (f : α → D) (h : α → D) (t : α → Bool) : ∀ (xs : List α) (acc : List D), (∀ a ∈ xs, ∀ (Q' : Bool → Ev → Prop), (∀ ρ2, (∀ (Q2 : D → Prop), Q2 (h a) → we X0 ρ2 Q2) → Q' (t a) ρ2) → g (f a) ρ fun ρ2 => wt X0 ρ2 fun b => Q' b ρ2) → acc.length + xs.length ≤ sizeLine → Q (acc ++ (xs.filter t).map h) → compL g wt we ρ Q (xs.map f) acc
  | [], acc, _, _, q => by simpa [compL] using q
  | a :: xs, acc, he, hl, q => by
    simp only [List.map_cons, compL]
    refine he a (by simp) (fun b ρ2 => Br b (we X0 ρ2 fun y => acc.length < sizeLine ∧ compL g wt we ρ Q (xs.map f) (acc ++ [y])) (compL g wt we ρ Q (xs.map f) acc) ⟨⟩ ⟨⟩) fun ρ2 hw => ?_
    have ih := fun acc => compL_filter (Q := Q) f h t xs acc (fun b hb => he b (by simp [hb]))
    cases ht : t a with
    | true =>
      rw [Br_true]
      refine hw _ ⟨by simp at hl; omega, ih _ (by simp at hl ⊢; omega) ?_⟩
      rw [List.filter_cons, if_pos ht] at q
      simpa using q
    | false =>
      rw [Br_false]
      refine ih _ (by simp at hl ⊢; omega) ?_
      rw [List.filter_cons, if_neg (by simp [ht])] at q
      exact q
/-- a loop, by a word over what is left and the slots -/
theorem loop_ind {α S : Type} {g : WG} {wb : WS} {q : DEnds} (f : α → D) (env : S → Ev) (P : List α → S → Prop) (hnil : ∀ s, P [] s → q.nx (env s))
    (hstep : ∀ a r s (L : Ev → Prop), P (a :: r) s → (∀ s', P r s' → L (env s')) → g (f a) (env s) fun ρ1 => wb ⟨L, q.rt, q.nx, L, q.ex⟩ ρ1) : ∀ (xs : List α) (s0 : S), P xs s0 → loopL g wb q (xs.map f) (env s0)
  | [], s, h => hnil s h
  | a :: r, s, h => hstep a r s _ h fun s' h' => loop_ind f env P hnil hstep r s' h'
/-- while, by a word over the slots and a measure -/
theorem while_ind {S : Type} {wt : WT} {wb : WS} {q : DEnds} (env : S → Ev) (P : Nat → S → Prop)
    (hstep : ∀ m s (L : Ev → Prop), P m s → (∀ m' s', m' < m → P m' s' → L (env s')) → wt q.ex (env s) fun b => Br b (wb { q with nx := L, ct := L, bk := q.nx } (env s)) (q.nx (env s)) ⟨⟩ ⟨⟩)
    (m0 : Nat) (s0 : S) (h0 : P m0 s0) : wWhile wt wb q (env s0) := by
  refine ⟨fun m ρ => ∃ s, ρ = env s ∧ P m s, ⟨m0, s0, rfl, h0⟩, ?_⟩
  rintro m ρ ⟨s, rfl, h⟩
  exact hstep m s (fun ρ' => ∃ m', m' < m ∧ ∃ s, ρ' = env s ∧ P m' s) h fun m' s' hm hp => ⟨m', hm, s', rfl, hp⟩
def lawSign (s : Str) (i : Int) : Str := tx [(atI s.cps.toList i).getD 97]
theorem lawSign_at {s : Str} {i : Int} (h0 : 0 ≤ i) (h1 : i < s.cps.toList.length) (hs : ∀ c ∈ s.cps.toList, 97 ≤ c ∧ c ≤ 122) : ∃ c, atI s.cps.toList i = some c ∧ tx [c] = lawSign s i ∧ isNail (lawSign s i) := by
  obtain ⟨c, e, m⟩ := atI_in h0 h1
  refine ⟨c, e, ?_, ?_⟩
  · unfold lawSign; rw [e]; rfl
  · refine ⟨c, ?_, hs c m⟩
    unfold lawSign; rw [e]; rfl
theorem abcz_ok : ∀ c ∈ ("abcz" : Str).cps.toList, 97 ≤ c ∧ c ≤ 122 := by decide +kernel
theorem abcz_len : ("abcz" : Str).cps.toList.length = 4 := by decide +kernel
theorem az_ok : ∀ c ∈ ("abcdefghijklmnopqrstuvwxyz" : Str).cps.toList, 97 ≤ c ∧ c ≤ 122 := by decide +kernel
theorem az_len : ("abcdefghijklmnopqrstuvwxyz" : Str).cps.toList.length = 26 := by decide +kernel
theorem abcz_sz : ("abcz" : Str).length ≤ 16777216 := by decide +kernel
theorem az_sz : ("abcdefghijklmnopqrstuvwxyz" : Str).length ≤ 16777216 := by decide +kernel
/-- a nail as a text -/
def dS (x : Nat) : D := .str (tx [x])
/-- a row of letters -/
def Lt (l : List Nat) : Prop := ∀ c ∈ l, 97 ≤ c ∧ c ≤ 122
theorem az_at {i : Int} (h0 : 0 ≤ i) (h1 : i < 26) : atI (Str.ofString "abcdefghijklmnopqrstuvwxyz").cps.toList i = some (97 + i.toNat) := by
  rw [az_cps, atI_at (xs := (List.range 26).map fun i => 97 + i) (i := i) (j := i.toNat) (by omega) (by simp; omega)]
  simp
theorem lawSign_az {i : Int} (h0 : 0 ≤ i) (h1 : i < 26) : lawSign (Str.ofString "abcdefghijklmnopqrstuvwxyz") i = tx [97 + i.toNat] := by
  unfold lawSign
  rw [az_at h0 h1]
  rfl
end NL

/-! Cords as words: putting together at the front, runs, and that it is one whatever is first. -/
namespace NL
open PySem PySem.Spec L2
open PyProof.Rows hiding St

/-- a piece put ahead of runs -/
def ps (p : Pc) (w : List Pc) : List Pc := if p.2 = 0 then w else match w with
  | [] => [p]
  | l :: r => if l.1 = p.1 then (if p.2 + l.2 = 0 then r else (p.1, p.2 + l.2) :: r) else p :: l :: r
def act (c w : List Pc) : List Pc := c.foldr ps w
/-- the runs -/
def nf (c : List Pc) : List Pc := act c []
/-- no turns 0, neighbours unlike -/
def Red : List Pc → Prop
  | [] => True
  | [p] => p.2 ≠ 0
  | p :: q :: r => p.2 ≠ 0 ∧ p.1 ≠ q.1 ∧ Red (q :: r)
theorem Red.tail {p : Pc} {r : List Pc} (h : Red (p :: r)) : Red r := by
  cases r with
  | nil => trivial
  | cons q r => exact h.2.2
theorem Red.head {p : Pc} {r : List Pc} (h : Red (p :: r)) : p.2 ≠ 0 := by
  cases r with
  | nil => exact h
  | cons q r => exact h.1
theorem Red.mk {p : Pc} {r : List Pc} (h0 : p.2 ≠ 0) (h1 : ∀ q, r.head? = some q → p.1 ≠ q.1) (h : Red r) : Red (p :: r) := by
  cases r with
  | nil => exact h0
  | cons q r => exact ⟨h0, h1 q rfl, h⟩
theorem Red.ne {p q : Pc} {r : List Pc} (h : Red (p :: q :: r)) : p.1 ≠ q.1 := h.2.1
theorem Red.swap {p q : Pc} {r : List Pc} (h : Red (p :: r)) (e : q.1 = p.1) (h0 : q.2 ≠ 0) : Red (q :: r) := by
  cases r with
  | nil => exact h0
  | cons s r => exact ⟨h0, by rw [e]; exact h.2.1, h.2.2⟩
theorem ps_red {p : Pc} {w : List Pc} (h : Red w) : Red (ps p w) := by
  unfold ps
  split
  · exact h
  · rename_i h0
    cases w with
    | nil => exact h0
    | cons l r =>
      simp only
      split
      · rename_i e
        split
        · exact h.tail
        · rename_i hs
          exact h.swap e.symm hs
      · rename_i e
        exact ⟨h0, fun z => e z.symm, h⟩
theorem ps_zero {n : Str} {w : List Pc} : ps (n, 0) w = w := by simp [ps]
theorem ps_nil {p : Pc} (h : p.2 ≠ 0) : ps p [] = [p] := by simp [ps, h]
theorem ps_other {p l : Pc} {r : List Pc} (h : p.2 ≠ 0) (e : l.1 ≠ p.1) : ps p (l :: r) = p :: l :: r := by simp [ps, h, e]
theorem ps_same {p l : Pc} {r : List Pc} (h : p.2 ≠ 0) (e : l.1 = p.1) (s : p.2 + l.2 ≠ 0) : ps p (l :: r) = (p.1, p.2 + l.2) :: r := by simp [ps, h, e, s]
theorem ps_gone {p l : Pc} {r : List Pc} (h : p.2 ≠ 0) (e : l.1 = p.1) (s : p.2 + l.2 = 0) : ps p (l :: r) = r := by simp [ps, h, e, s]
/-- two pieces of one nail -/
theorem ps_ps {n : Str} {a b : Int} {w : List Pc} (hw : Red w) : ps (n, a) (ps (n, b) w) = ps (n, a + b) w := by
  by_cases ha : a = 0
  · subst ha; rw [ps_zero, Int.zero_add]
  by_cases hb : b = 0
  · subst hb; rw [ps_zero, Int.add_zero]
  cases w with
  | nil =>
    rw [ps_nil (p := (n, b)) hb]
    by_cases hs : a + b = 0
    · rw [ps_gone (p := (n, a)) (l := (n, b)) ha rfl hs, hs, ps_zero]
    · rw [ps_same (p := (n, a)) (l := (n, b)) ha rfl hs, ps_nil (p := (n, a + b)) hs]
  | cons l r =>
    by_cases e : l.1 = n
    · by_cases h1 : b + l.2 = 0
      · rw [ps_gone (p := (n, b)) hb e h1]
        have el : l.2 ≠ 0 := hw.head
        have hab : a + b + l.2 = a := by omega
        by_cases hs : a + b = 0
        · have : a = l.2 := by omega
          rw [hs, ps_zero, this]
          cases r with
          | nil => rw [ps_nil (p := (n, l.2)) el]; congr 1; exact Prod.ext e.symm rfl
          | cons q r =>
            have hq : q.1 ≠ l.1 := fun z => hw.2.1 z.symm
            rw [ps_other (p := (n, l.2)) el (by rw [← e]; exact hq)]
            congr 1
            exact Prod.ext e.symm rfl
        · rw [ps_same (p := (n, a + b)) hs e (by show a + b + l.2 ≠ 0; rw [hab]; exact ha)]
          show ps (n, a) r = (n, a + b + l.2) :: r
          rw [hab]
          cases r with
          | nil => rw [ps_nil (p := (n, a)) ha]
          | cons q r =>
            have hq : q.1 ≠ l.1 := fun z => hw.2.1 z.symm
            rw [ps_other (p := (n, a)) ha (by rw [← e]; exact hq)]
      · rw [ps_same (p := (n, b)) hb e h1]
        by_cases h2 : a + (b + l.2) = 0
        · rw [ps_gone (p := (n, a)) (l := (n, b + l.2)) ha rfl h2]
          by_cases hs : a + b = 0
          · exact absurd (show l.2 = 0 by omega) hw.head
          · rw [ps_gone (p := (n, a + b)) hs e (by show a + b + l.2 = 0; omega)]
        · rw [ps_same (p := (n, a)) (l := (n, b + l.2)) ha rfl h2]
          by_cases hs : a + b = 0
          · rw [hs, ps_zero]
            congr 1
            refine Prod.ext e.symm ?_
            show a + (b + l.2) = l.2
            omega
          · rw [ps_same (p := (n, a + b)) hs e (by show a + b + l.2 ≠ 0; omega)]
            congr 1
            refine Prod.ext rfl ?_
            show a + (b + l.2) = a + b + l.2
            omega
    · rw [ps_other (p := (n, b)) hb e]
      by_cases hs : a + b = 0
      · rw [ps_gone (p := (n, a)) (l := (n, b)) ha rfl hs, hs, ps_zero]
      · rw [ps_same (p := (n, a)) (l := (n, b)) ha rfl hs, ps_other (p := (n, a + b)) hs e]
theorem act_red {c w : List Pc} (h : Red w) : Red (act c w) := by
  induction c with
  | nil => exact h
  | cons p c ih => exact ps_red ih
theorem act_app (a b w : List Pc) : act (a ++ b) w = act a (act b w) := by simp [act, List.foldr_append]
theorem act_cons (p : Pc) (c w : List Pc) : act (p :: c) w = ps p (act c w) := rfl
theorem act_nil (w : List Pc) : act [] w = w := rfl
theorem nf_red (c : List Pc) : Red (nf c) := act_red (c := c) (w := []) trivial
theorem red_nf {w : List Pc} (h : Red w) : nf w = w := by
  induction w with
  | nil => rfl
  | cons p r ih =>
    show ps p (nf r) = p :: r
    rw [ih h.tail]
    cases r with
    | nil => exact ps_nil h
    | cons q r => exact ps_other h.1 fun z => h.2.1 z.symm
theorem nf_nf (c : List Pc) : nf (nf c) = nf c := red_nf (nf_red c)
theorem nf_app (a b : List Pc) : nf (a ++ b) = act a (nf b) := act_app a b []
/-- two cords that do one thing to runs -/
def Eqv (a b : List Pc) : Prop := ∀ w, Red w → act a w = act b w
theorem Eqv.refl (a : List Pc) : Eqv a a := fun _ _ => rfl
theorem Eqv.symm {a b : List Pc} (h : Eqv a b) : Eqv b a := fun w r => (h w r).symm
theorem Eqv.trans {a b c : List Pc} (h : Eqv a b) (g : Eqv b c) : Eqv a c := fun w r => (h w r).trans (g w r)
theorem Eqv.app {a b c d : List Pc} (h : Eqv a b) (g : Eqv c d) : Eqv (a ++ c) (b ++ d) := fun w r => by
  rw [act_app, act_app, g w r, h _ (act_red r)]
theorem Eqv.nf {a b : List Pc} (h : Eqv a b) : nf a = nf b := h [] trivial
/-- a cord does what its runs do -/
theorem eqv_nf (c : List Pc) : Eqv c (nf c) := by
  induction c with
  | nil => exact .refl _
  | cons p c ih =>
    intro w r
    rw [act_cons, ih w r]
    show ps p (act (nf c) w) = act (ps p (nf c)) w
    have hr := nf_red c
    generalize nf c = u at hr
    by_cases h0 : p.2 = 0
    · have : p = (p.1, 0) := Prod.ext rfl h0
      rw [this, ps_zero, ps_zero]
    cases u with
    | nil => rw [ps_nil h0]; rfl
    | cons l t =>
      by_cases e : l.1 = p.1
      · have e1 : l = (p.1, l.2) := Prod.ext e rfl
        have key : ps p (act (l :: t) w) = ps (p.1, p.2 + l.2) (act t w) := by
          rw [act_cons, e1]
          exact ps_ps (n := p.1) (a := p.2) (b := l.2) (act_red r)
        rw [key]
        by_cases hs : p.2 + l.2 = 0
        · rw [hs, ps_zero, ps_gone h0 e hs]
        · rw [ps_same h0 e hs]; rfl
      · rw [ps_other h0 e]; rfl
theorem nf_eqv {a b : List Pc} (h : nf a = nf b) : Eqv a b := (eqv_nf a).trans (by rw [h]; exact (eqv_nf b).symm)
theorem eqv_iff' {a b : List Pc} : Eqv a b ↔ nf a = nf b := ⟨Eqv.nf, nf_eqv⟩
theorem nf_app2 (a b : List Pc) : nf (a ++ b) = nf (nf a ++ nf b) := ((eqv_nf a).app (eqv_nf b)).nf
theorem nf_appR (a b : List Pc) : nf (a ++ b) = nf (a ++ nf b) := ((Eqv.refl a).app (eqv_nf b)).nf
theorem nf_appL (a b : List Pc) : nf (a ++ b) = nf (nf a ++ b) := ((eqv_nf a).app (Eqv.refl b)).nf
theorem nf_congr {a b c d : List Pc} (h : nf a = nf b) (g : nf c = nf d) : nf (a ++ c) = nf (b ++ d) := ((nf_eqv h).app (nf_eqv g)).nf
/-! ### one after the other, at the back -/
theorem Red.app_one : ∀ {w : List Pc} {p : Pc}, Red w → p.2 ≠ 0 → (∀ q, w.getLast? = some q → q.1 ≠ p.1) → Red (w ++ [p])
  | [], p, _, h, _ => h
  | [q], p, h, h0, h1 => ⟨h, h1 q rfl, h0⟩
  | q :: s :: r, p, h, h0, h1 => ⟨h.1, h.2.1, Red.app_one (w := s :: r) h.2.2 h0 fun t ht => h1 t (by rw [List.getLast?_cons_cons]; exact ht)⟩
theorem Red.rev : ∀ {w : List Pc}, Red w → Red w.reverse
  | [], _ => trivial
  | [p], h => h
  | p :: q :: r, h => by
    rw [List.reverse_cons]
    refine Red.app_one (Red.rev h.2.2) h.1 fun t ht => ?_
    rw [List.getLast?_reverse] at ht
    cases ht
    exact fun z => h.2.1 z.symm
def stk (st : List Pc) (p : Pc) : List Pc := ps p st
/-- the stack (its top first) behind some pieces does what they do -/
theorem stk_act : ∀ (c st : List Pc), Red st → Red (c.foldl stk st) ∧ ∀ w, Red w → act (c.foldl stk st).reverse w = act (st.reverse ++ c) w
  | [], st, h => ⟨h, fun w r => by simp⟩
  | p :: c, st, h => by
    obtain ⟨h1, h2⟩ := stk_act c (stk st p) (ps_red h)
    refine ⟨h1, fun w r => ?_⟩
    show act (List.foldl stk (stk st p) c).reverse w = _
    rw [h2 w r, act_app, act_app]
    show act (ps p st).reverse (act c w) = act st.reverse (ps p (act c w))
    have hr : Red (act c w) := act_red r
    generalize act c w = u at hr
    by_cases h0 : p.2 = 0
    · have : p = (p.1, 0) := Prod.ext rfl h0
      rw [this, ps_zero, ps_zero]
    cases st with
    | nil => rw [ps_nil h0]; rfl
    | cons l t =>
      by_cases e : l.1 = p.1
      · have e1 : l = (p.1, l.2) := Prod.ext e rfl
        have key : act (l :: t).reverse (ps p u) = act t.reverse (ps (p.1, p.2 + l.2) u) := by
          rw [List.reverse_cons, act_app]
          congr 1
          show ps l (ps p u) = _
          rw [e1]
          have := ps_ps (n := p.1) (a := l.2) (b := p.2) hr
          rw [show p.2 + l.2 = l.2 + p.2 by omega]
          exact this
        rw [key]
        by_cases hs : p.2 + l.2 = 0
        · rw [hs, ps_zero, ps_gone h0 e hs]
        · rw [ps_same h0 e hs, List.reverse_cons, act_app]; rfl
      · rw [ps_other h0 e, List.reverse_cons, act_app]; rfl
/-- the runs, put together from the beginning -/
def short (c : List Pc) : List Pc := (c.foldl stk []).reverse
theorem short_nf (c : List Pc) : short c = nf c := by
  obtain ⟨h1, h2⟩ := stk_act c [] trivial
  have h3 := h2 [] trivial
  have h4 := red_nf h1.rev
  show (c.foldl stk []).reverse = nf c
  rw [← h4]
  exact h3
/-- the runs, put together from the end: a stack, its top first -/
theorem end_nf (c : List Pc) : c.reverse.foldl stk [] = nf c := by
  rw [List.foldl_reverse]
  rfl
theorem stk_len : ∀ (c st : List Pc), (c.foldl stk st).length ≤ c.length + st.length
  | [], st => by simp
  | p :: c, st => by
    have h := stk_len c (stk st p)
    have : (stk st p).length ≤ st.length + 1 := by
      unfold stk ps
      split
      · omega
      · split
        · simp
        · split
          · split <;> simp <;> omega
          · simp
    simp only [List.foldl_cons, List.length_cons]
    omega
theorem nf_len (c : List Pc) : (nf c).length ≤ c.length := by
  have := stk_len c []
  rw [← short_nf]
  simpa [short] using this
theorem ps_mem {p q : Pc} {w : List Pc} (h : q ∈ ps p w) : q ∈ w ∨ q.1 = p.1 := by
  unfold ps at h
  split at h
  · exact .inl h
  · split at h
    · simp at h; exact .inr (by rw [h])
    · split at h
      · split at h
        · exact .inl (List.mem_cons_of_mem _ h)
        · rcases List.mem_cons.mp h with e | e
          · exact .inr (by rw [e])
          · exact .inl (List.mem_cons_of_mem _ e)
      · rcases List.mem_cons.mp h with e | e
        · exact .inr (by rw [e])
        · exact .inl e
theorem nf_nails {c : List Pc} {q : Pc} (h : q ∈ nf c) : ∃ p ∈ c, q.1 = p.1 := by
  induction c with
  | nil => cases h
  | cons p c ih =>
    rcases ps_mem (p := p) (w := nf c) h with e | e
    · obtain ⟨r, hr, e⟩ := ih e
      exact ⟨r, List.mem_cons_of_mem _ hr, e⟩
    · exact ⟨p, List.mem_cons_self, e⟩
theorem nf_ok {c : List Pc} (h : OkC c) : OkC (nf c) := fun q hq => by
  obtain ⟨p, hp, e⟩ := nf_nails hq
  rw [e]
  exact h p hp
/-! ### the contrary -/
def con (c : List Pc) : List Pc := c.reverse.map fun p => (p.1, -p.2)
theorem con_con (c : List Pc) : con (con c) = c := by
  unfold con
  rw [← List.map_reverse, List.reverse_reverse, List.map_map]
  conv => rhs; rw [← List.map_id c]
  apply List.map_congr_left
  intro p _
  simp
theorem con_app (a b : List Pc) : con (a ++ b) = con b ++ con a := by simp [con]
theorem con_cons (p : Pc) (c : List Pc) : con (p :: c) = con c ++ [(p.1, -p.2)] := by simp [con]
theorem con_len (c : List Pc) : (con c).length = c.length := by simp [con]
theorem eqv_one (p : Pc) : Eqv ([p] ++ con [p]) [] := fun w r => by
  show ps p (ps (p.1, -p.2) w) = w
  have := ps_ps (n := p.1) (a := p.2) (b := -p.2) r
  rw [show p.2 + -p.2 = 0 by omega, ps_zero] at this
  exact this
theorem eqv_con (c : List Pc) : Eqv (c ++ con c) [] := by
  induction c with
  | nil => exact .refl _
  | cons p c ih =>
    rw [con_cons]
    have e : p :: c ++ (con c ++ [(p.1, -p.2)]) = [p] ++ ((c ++ con c) ++ [(p.1, -p.2)]) := by simp
    rw [e]
    exact (((Eqv.refl [p]).app (ih.app (.refl _))).trans (by simpa [con] using eqv_one p))
theorem eqv_con' (c : List Pc) : Eqv (con c ++ c) [] := by
  have := eqv_con (con c)
  rwa [con_con] at this
theorem nf_con (c : List Pc) : nf (c ++ con c) = [] := (eqv_con c).nf
theorem nf_con' (c : List Pc) : nf (con c ++ c) = [] := (eqv_con' c).nf
theorem nf_mid {u v : List Pc} (l r : List Pc) (h : Eqv u v) : nf (l ++ u ++ r) = nf (l ++ v ++ r) := (((Eqv.refl l).app h).app (.refl r)).nf
theorem eqv_mid {l r u v : List Pc} (h : nf (l ++ u ++ r) = nf (l ++ v ++ r)) : Eqv u v := by
  have e := nf_eqv h
  have key : ∀ z : List Pc, Eqv (con l ++ (l ++ z ++ r) ++ con r) z := fun z => by
    have h1 := ((eqv_con' l).app (Eqv.refl z)).app (eqv_con r)
    simp only [List.nil_append, List.append_nil, List.append_assoc] at h1 ⊢
    exact h1
  exact (key u).symm.trans ((((Eqv.refl (con l)).app e).app (.refl (con r))).trans (key v))
theorem eqv_part {n : Str} {a b t : Int} (h : a + b = t) : Eqv [(n, t)] [(n, a), (n, b)] := fun w r => by
  show ps (n, t) w = ps (n, a) (ps (n, b) w)
  rw [ps_ps r, h]
theorem eqv_zero {n : Str} : Eqv [] [(n, 0)] := fun w _ => (ps_zero (n := n) (w := w)).symm
theorem one_ne {l r : List Pc} {p : Pc} (h : nf (l ++ [p] ++ r) = nf (l ++ r)) : p.2 = 0 := by
  by_cases h0 : p.2 = 0
  · exact h0
  · have h' : nf (l ++ [p] ++ r) = nf (l ++ [] ++ r) := by rw [List.append_nil]; exact h
    have e := (eqv_mid h').nf
    have : nf [p] = [p] := ps_nil h0
    rw [this] at e
    cases e
theorem con_red {w : List Pc} (h : Red w) : Red (con w) := by
  unfold con
  have := h.rev
  generalize w.reverse = u at this
  induction u with
  | nil => trivial
  | cons p r ih =>
    cases r with
    | nil => show -p.2 ≠ 0; have : p.2 ≠ 0 := this; omega
    | cons q r => exact ⟨by have := this.1; show -p.2 ≠ 0; omega, this.2.1, ih this.2.2⟩
theorem eqv_con_congr {a b : List Pc} (h : Eqv a b) : Eqv (con a) (con b) := by
  have e1 : Eqv (con a) (con a ++ (b ++ con b)) := by
    have := (Eqv.refl (con a)).app (eqv_con b).symm
    simpa using this
  have e2 : Eqv (con a ++ (b ++ con b)) (con a ++ (a ++ con b)) := (Eqv.refl _).app (h.symm.app (.refl _))
  have e3 : Eqv (con a ++ (a ++ con b)) (con b) := by
    have := (eqv_con' a).app (Eqv.refl (con b))
    rw [List.append_assoc] at this
    simpa using this
  exact (e1.trans e2).trans e3
theorem nf_con_nf (c : List Pc) : nf (con c) = con (nf c) := by
  rw [(eqv_con_congr (eqv_nf c)).nf]
  exact red_nf (con_red (nf_red c))
theorem con_ok {c : List Pc} (h : OkC c) : OkC (con c) := fun q hq => by
  obtain ⟨p, hp, rfl⟩ := List.mem_map.mp hq
  exact h p (List.mem_reverse.mp hp)
theorem con_gd {b : Int} {c : List Pc} (h : Gds b c) : Gds b (con c) := fun q hq => by
  obtain ⟨p, hp, rfl⟩ := List.mem_map.mp hq
  obtain ⟨h1, h2, h3⟩ := h p (List.mem_reverse.mp hp)
  exact ⟨h1, by show -b ≤ -p.2; omega, by show -p.2 ≤ b; omega⟩
theorem OkC.app {c d : List Pc} (h : OkC c) (g : OkC d) : OkC (c ++ d) := fun p hp => (List.mem_append.mp hp).elim (h p) (g p)
theorem OkC.sub {c d : List Pc} (h : OkC c) (g : ∀ p ∈ d, p ∈ c) : OkC d := fun p hp => h p (g p hp)
theorem split_at {c : List Pc} {i : Nat} (h : i < c.length) : c = c.take i ++ [c[i]] ++ c.drop (i + 1) := by
  have : c.take i ++ [c[i]] = c.take (i + 1) := by rw [List.take_succ_eq_append_getElem h]
  rw [this, List.take_append_drop]
theorem split_at2 {c : List Pc} {i : Nat} (h : i + 1 < c.length) : c = c.take i ++ [c[i], c[i + 1]] ++ c.drop (i + 2) := by
  have h1 := split_at (c := c) (i := i + 1) h
  have h2 : c.take (i + 1) = c.take i ++ [c[i]] := List.take_succ_eq_append_getElem (by omega)
  rw [h2] at h1
  simpa using h1
theorem nf_bd {b : Int} (b0 : 0 ≤ b) : ∀ {c : List Pc}, (∀ p ∈ c, -b ≤ p.2 ∧ p.2 ≤ b) → ∀ p ∈ nf c, -(c.length * b) ≤ p.2 ∧ p.2 ≤ c.length * b
  | [], _, p, h => by cases h
  | q :: c, hc, p, h => by
    have ih := nf_bd b0 (c := c) fun z hz => hc z (by simp [hz])
    have hq := hc q (by simp)
    have e : ((q :: c).length : Int) * b = c.length * b + b := by
      rw [List.length_cons, Int.natCast_succ, Int.add_mul, Int.one_mul]
    have hm : 0 ≤ (c.length : Int) * b := Int.mul_nonneg (by omega) b0
    rw [e]
    have up : ∀ z ∈ nf c, -(c.length * b + b) ≤ z.2 ∧ z.2 ≤ c.length * b + b := fun z hz => by
      have := ih z hz
      omega
    change p ∈ ps q (nf c) at h
    unfold ps at h
    split at h
    · exact up p h
    · split at h
      · rw [List.mem_singleton] at h
        subst h
        omega
      · rename_i l r hw
        rw [hw] at up ih
        split at h
        · split at h
          · exact up p (by simp [h])
          · rcases List.mem_cons.mp h with z | z
            · have := ih l (by simp)
              subst z
              simp only
              omega
            · exact up p (by simp [z])
        · rcases List.mem_cons.mp h with z | z
          · subst z; omega
          · exact up p z
/-! ### the row of a cord's nails -/
def lts (c : List Pc) : List Nat := (c.map fun p => p.1.cps.toList).flatten
theorem glue_fold : ∀ (r : List Str) (a : Array Nat), (r.foldl (fun acc p => acc ++ (tx []).cps ++ p.cps) a).toList = a.toList ++ (r.map (·.cps.toList)).flatten
  | [], a => by simp
  | s :: r, a => by
    rw [List.foldl_cons, glue_fold r]
    simp [tx]
theorem join_nil (ss : List Str) : Txt.join (tx []) ss = tx (ss.map (·.cps.toList)).flatten := by
  cases ss with
  | nil => rfl
  | cons s r =>
    show (⟨r.foldl (fun acc p => acc ++ (tx []).cps ++ p.cps) s.cps⟩ : Str) = _
    rw [tx_of (⟨r.foldl (fun acc p => acc ++ (tx []).cps ++ p.cps) s.cps⟩ : Str)]
    rw [glue_fold r s.cps]
    rfl
def Nl (c : List Pc) : Prop := ∀ p ∈ c, isNail p.1
theorem Gds.nl {b : Int} {c : List Pc} (h : Gds b c) : Nl c := fun p hp => (h p hp).1
theorem Nl.ok {c : List Pc} (h : Nl c) : OkC c := fun p hp => (h p hp).ok
theorem Nl.nf {c : List Pc} (h : Nl c) : Nl (nf c) := fun q hq => by
  obtain ⟨p, hp, e⟩ := nf_nails hq
  rw [e]
  exact h p hp
theorem Nl.app {c d : List Pc} (h : Nl c) (g : Nl d) : Nl (c ++ d) := fun p hp => (List.mem_append.mp hp).elim (h p) (g p)
theorem Nl.con {c : List Pc} (h : Nl c) : Nl (con c) := fun q hq => by
  obtain ⟨p, hp, rfl⟩ := List.mem_map.mp hq
  exact h p (List.mem_reverse.mp hp)
theorem Nl.tail {p : Pc} {c : List Pc} (h : Nl (p :: c)) : Nl c := fun q hq => h q (by simp [hq])
theorem lts_cons {p : Pc} {c : List Pc} {x : Nat} (h : p.1 = tx [x]) : lts (p :: c) = x :: lts c := by
  unfold lts
  rw [List.map_cons, List.flatten_cons, h, tx_cps]
  rfl
theorem lts_len : ∀ {c : List Pc}, Nl c → (lts c).length = c.length
  | [], _ => rfl
  | p :: c, h => by
    obtain ⟨x, hx, _⟩ := h p (by simp)
    rw [lts_cons hx, List.length_cons, List.length_cons, lts_len h.tail]
theorem nl_sum : ∀ {c : List Pc}, Nl c → ((c.map fun p => p.1).map (·.length)).sum = c.length
  | [], _ => rfl
  | p :: c, h => by
    obtain ⟨x, hx, _⟩ := h p (by simp)
    rw [List.map_cons, List.map_cons, List.sum_cons, nl_sum h.tail, hx, tx_len, List.length_cons, List.length_cons]
    simp
    omega
/-- the product of the turns -/
def prd (c : List Pc) : Int := c.foldr (fun p z => p.2 * z) 1
theorem prd_ne : ∀ {w : List Pc}, Red w → prd w ≠ 0
  | [], _ => by decide
  | p :: w, h => Int.mul_ne_zero h.head (prd_ne h.tail)
end NL

/-! How many times a row stands in a cord. -/
namespace NL
open PySem PySem.Spec L2
open PyProof.Rows hiding St

def fal (t : Int) : Nat → Int
  | 0 => 1
  | m + 1 => fal t m * (t - m)
def fac : Nat → Int
  | 0 => 1
  | m + 1 => fac m * (m + 1)
theorem fac_pos : ∀ m, 0 < fac m
  | 0 => by decide
  | m + 1 => Int.mul_pos (fac_pos m) (by omega)
theorem fal_succ (t : Int) : ∀ m, fal (t + 1) (m + 1) = (t + 1) * fal t m
  | 0 => by simp [fal]
  | m + 1 => by
    have ih := fal_succ t m
    show fal (t + 1) (m + 1) * (t + 1 - ((m + 1 : Nat) : Int)) = (t + 1) * (fal t m * (t - m))
    rw [ih, Int.mul_assoc]
    congr 2
    omega
theorem fal_pascal (t : Int) (m : Nat) : fal (t + 1) (m + 1) = fal t (m + 1) + (m + 1) * fal t m := by
  rw [fal_succ]
  show _ = fal t m * (t - m) + _
  grind
theorem up_down {p : Int → Prop} (h0 : p 0) (hs : ∀ t, p t ↔ p (t + 1)) (t : Int) : p t := by
  have up : ∀ n : Nat, p n := fun n => by
    induction n with
    | zero => exact h0
    | succ n ih => exact (hs _).mp ih
  have down : ∀ n : Nat, p (-(n : Int)) := fun n => by
    induction n with
    | zero => exact h0
    | succ n ih => exact (hs _).mpr (by rw [show -((n + 1 : Nat) : Int) + 1 = -(n : Int) by omega]; exact ih)
  rcases Int.le_total 0 t with h | h
  · have := up t.toNat
    rwa [Int.toNat_of_nonneg h] at this
  · have := down (-t).toNat
    rwa [Int.toNat_of_nonneg (by omega), Int.neg_neg] at this
theorem fal0 : ∀ m, fal 0 (m + 1) = 0
  | 0 => by simp [fal]
  | m + 1 => by
    show fal 0 (m + 1) * _ = 0
    rw [fal0 m, Int.zero_mul]
theorem fac_dvd : ∀ (m : Nat) (t : Int), fac m ∣ fal t m
  | 0, _ => ⟨1, rfl⟩
  | m + 1, t => by
    have ih := fac_dvd m
    refine up_down (p := fun t => fac (m + 1) ∣ fal t (m + 1)) ?_ (fun t => ?_) t
    · rw [fal0]; exact Int.dvd_zero _
    · have h : fac (m + 1) ∣ (m + 1) * fal t m := by
        obtain ⟨c, hc⟩ := ih t
        exact ⟨c, by rw [hc]; show _ = fac m * (m + 1) * c; grind⟩
      rw [fal_pascal]
      constructor
      · exact fun z => Int.dvd_add z h
      · intro z
        have := Int.dvd_sub z h
        rwa [Int.add_sub_cancel] at this
/-- the ways to take m of t -/
def ch (t : Int) (m : Nat) : Int := fal t m / fac m
theorem ch_mul (t : Int) (m : Nat) : ch t m * fac m = fal t m := Int.ediv_mul_cancel (fac_dvd m t)
theorem ch_eq {t z : Int} {m : Nat} (h : z * fac m = fal t m) : ch t m = z := by
  unfold ch
  rw [← h, Int.mul_ediv_cancel _ (Int.ne_of_gt (fac_pos m))]
theorem ch_zero (t : Int) : ch t 0 = 1 := ch_eq rfl
theorem ch_pascal (t : Int) (m : Nat) : ch (t + 1) (m + 1) = ch t (m + 1) + ch t m := by
  apply ch_eq
  have h1 := ch_mul t (m + 1)
  have h2 := ch_mul t m
  rw [fal_pascal, Int.add_mul, h1, ← h2]
  show _ + _ * (fac m * (m + 1)) = _
  grind
theorem ch0 (m : Nat) : ch 0 (m + 1) = 0 := ch_eq (by rw [fal0, Int.zero_mul])
theorem ch1 (m : Nat) : ch 1 (m + 2) = 0 := by
  have := ch_pascal 0 (m + 1)
  rw [ch0, ch0] at this
  exact this
theorem ch_step (t : Int) (m : Nat) : ch t m * (t - m) / (m + 1) = ch t (m + 1) := by
  have h1 := ch_mul t (m + 1)
  have h2 := ch_mul t m
  have hp := fac_pos m
  have key : ch t m * (t - m) = ch t (m + 1) * (m + 1) := by
    apply Int.eq_of_mul_eq_mul_right (Int.ne_of_gt hp)
    have e1 : ch t (m + 1) * (fac m * (m + 1)) = fal t m * (t - m) := h1
    rw [← h2] at e1
    grind
  rw [key, Int.mul_ediv_cancel _ (by omega)]

/-! ### sums over runs of one nail at the beginning -/
def xx (n : Str) (A : List Nat → Int) (f : Nat → Int) : Nat → List Nat → Int
  | m, [] => A [] * f m
  | m, x :: r => A (x :: r) * f m + if tx [x] = n then xx n A f (m + 1) r else 0
/-- a piece more, to what a row's beginnings (turned round) stand for -/
def stp (p : Pc) (A : List Nat → Int) (r : List Nat) : Int := xx p.1 A (ch p.2) 0 r
def one0 : List Nat → Int
  | [] => 1
  | _ :: _ => 0
/-- the times of a row, the row turned round -/
def tim (c : List Pc) : List Nat → Int := c.foldl (fun A p => stp p A) one0
theorem tim_app (c : List Pc) (p : Pc) : tim (c ++ [p]) = stp p (tim c) := by simp [tim, List.foldl_append]
/-! sums of sums -/
theorem xx_shift {n : Str} {A : List Nat → Int} {g : Nat → Int} : ∀ (r : List Nat) (m : Nat), xx n A (fun j => g (j + 1)) m r = xx n A g (m + 1) r
  | [], m => rfl
  | x :: r, m => by simp only [xx, xx_shift r (m + 1)]
theorem xx_add {n : Str} {A : List Nat → Int} {f g : Nat → Int} : ∀ (r : List Nat) (m : Nat), xx n A (fun j => f j + g j) m r = xx n A f m r + xx n A g m r
  | [], m => by simp only [xx, Int.mul_add]
  | x :: r, m => by
    simp only [xx, xx_add r (m + 1), Int.mul_add]
    split <;> omega
theorem xx_mul {n : Str} {A : List Nat → Int} {f : Nat → Int} {b : Int} : ∀ (r : List Nat) (m : Nat), xx n A (fun j => b * f j) m r = b * xx n A f m r
  | [], m => by simp only [xx]; grind
  | x :: r, m => by
    simp only [xx, xx_mul r (m + 1)]
    split <;> grind
theorem xx_zero {n : Str} {A : List Nat → Int} {f : Nat → Int} : ∀ (r : List Nat) (m : Nat), (∀ j, m ≤ j → f j = 0) → xx n A f m r = 0
  | [], m, h => by simp [xx, h m (Nat.le_refl m)]
  | x :: r, m, h => by
    simp only [xx, h m (Nat.le_refl m), xx_zero r (m + 1) fun j hj => h j (by omega)]
    simp
def SS (A B : List Nat → Int) : List Nat → List Nat → Int
  | pre, [] => A pre * B []
  | pre, y :: suf => A pre * B (y :: suf) + SS A B (y :: pre) suf
theorem SS_key (p : Pc) (A B : List Nat → Int) : ∀ (suf pre : List Nat), SS (stp p A) B pre suf + A pre * stp p B suf = SS A (stp p B) pre suf + xx p.1 A (fun j => xx p.1 B (ch p.2) j suf) 0 pre
  | [], pre => by
    show stp p A pre * B [] + A pre * stp p B [] = A pre * stp p B [] + xx p.1 A (fun j => B [] * ch p.2 j) 0 pre
    rw [xx_mul]
    show xx p.1 A (ch p.2) 0 pre * B [] + _ = _
    grind
  | y :: suf, pre => by
    have ih := SS_key p A B suf (y :: pre)
    have e1 : xx p.1 A (fun j => xx p.1 B (ch p.2) j suf) 0 (y :: pre) = A (y :: pre) * stp p B suf + if tx [y] = p.1 then xx p.1 A (fun j => xx p.1 B (ch p.2) j suf) 1 pre else 0 := rfl
    rw [e1] at ih
    have e2 : xx p.1 A (fun j => xx p.1 B (ch p.2) j (y :: suf)) 0 pre = B (y :: suf) * stp p A pre + if tx [y] = p.1 then xx p.1 A (fun j => xx p.1 B (ch p.2) j suf) 1 pre else 0 := by
      show xx p.1 A (fun j => B (y :: suf) * ch p.2 j + if tx [y] = p.1 then xx p.1 B (ch p.2) (j + 1) suf else 0) 0 pre = _
      rw [xx_add, xx_mul]
      congr 1
      split
      · exact xx_shift (g := fun j => xx p.1 B (ch p.2) j suf) pre 0
      · exact xx_zero pre 0 fun _ _ => rfl
    rw [e2]
    show stp p A pre * B (y :: suf) + SS (stp p A) B (y :: pre) suf + A pre * stp p B (y :: suf) = A pre * stp p B (y :: suf) + SS A (stp p B) (y :: pre) suf + _
    grind
theorem SS_one (p : Pc) (A B : List Nat → Int) (row : List Nat) : SS (stp p A) B [] row = SS A (stp p B) [] row := by
  have h := SS_key p A B row []
  have e : xx p.1 A (fun j => xx p.1 B (ch p.2) j row) 0 [] = A [] * stp p B row := rfl
  rw [e] at h
  omega
/-- what a cord's end makes of what rows stand for behind it -/
def wyA (c : List Pc) (B : List Nat → Int) : List Nat → Int := c.foldr (fun p B => stp p B) B
def wy (c : List Pc) : List Nat → Int := wyA c one0
theorem SS_all (row : List Nat) : ∀ (c : List Pc) (A B : List Nat → Int), SS (c.foldl (fun A p => stp p A) A) B [] row = SS A (wyA c B) [] row
  | [], A, B => rfl
  | p :: c, A, B => by
    rw [List.foldl_cons, SS_all row c]
    exact SS_one p A _ row
theorem SS_right (A : List Nat → Int) : ∀ (suf pre : List Nat), SS A one0 pre suf = A (suf.reverse ++ pre)
  | [], pre => by simp [SS, one0]
  | y :: suf, pre => by simp [SS, one0, SS_right A suf]
theorem SS_left0 (B : List Nat → Int) : ∀ (suf pre : List Nat) (y : Nat), SS one0 B (y :: pre) suf = 0
  | [], pre, y => by simp [SS, one0]
  | z :: suf, pre, y => by simp [SS, one0, SS_left0 B suf]
theorem SS_left (B : List Nat → Int) (suf : List Nat) : SS one0 B [] suf = B suf := by
  cases suf with
  | nil => simp [SS, one0]
  | cons y suf => simp [SS, one0, SS_left0]
theorem wy_tim (c : List Pc) (row : List Nat) : wy c row = tim c row.reverse := by
  have h := SS_all row c one0 one0
  rw [SS_right, SS_left, List.append_nil] at h
  exact h.symm
theorem tim_wy (c : List Pc) (row : List Nat) : tim c row = wy c row.reverse := by rw [wy_tim, List.reverse_reverse]

/-! ### pieces put together -/
theorem stp_zero (n : Str) (A : List Nat → Int) : stp (n, 0) A = A := by
  funext r
  show xx n A (ch 0) 0 r = A r
  cases r with
  | nil => show A [] * ch 0 0 = _; rw [ch_zero, Int.mul_one]
  | cons x r =>
    show A (x :: r) * ch 0 0 + (if tx [x] = n then xx n A (ch 0) 1 r else 0) = _
    rw [ch_zero, xx_zero r 1 fun j hj => by obtain ⟨i, rfl⟩ : ∃ i, j = i + 1 := ⟨j - 1, by omega⟩; exact ch0 i]
    simp
/-- one turn more -/
def bump (n : Str) (A : List Nat → Int) : List Nat → Int
  | [] => A []
  | x :: r => A (x :: r) + if tx [x] = n then A r else 0
theorem stp_succ (n : Str) (t : Int) (A : List Nat → Int) : stp (n, t + 1) A = bump n (stp (n, t) A) := by
  funext r
  show xx n A (ch (t + 1)) 0 r = bump n (fun r => xx n A (ch t) 0 r) r
  cases r with
  | nil => show A [] * ch (t + 1) 0 = A [] * ch t 0; rw [ch_zero, ch_zero]
  | cons x r =>
    show A (x :: r) * ch (t + 1) 0 + (if tx [x] = n then xx n A (ch (t + 1)) 1 r else 0) = A (x :: r) * ch t 0 + (if tx [x] = n then xx n A (ch t) 1 r else 0) + if tx [x] = n then xx n A (ch t) 0 r else 0
    rw [ch_zero, ch_zero, ← xx_shift (g := ch (t + 1)) r 0]
    have : (fun j => ch (t + 1) (j + 1)) = fun j => ch t (j + 1) + ch t j := funext fun j => ch_pascal t j
    rw [this, xx_add, xx_shift (g := ch t) r 0]
    simp only [Nat.zero_add]
    split <;> omega
theorem bump_inj {n : Str} {A B : List Nat → Int} (h : bump n A = bump n B) : A = B := by
  funext r
  induction r with
  | nil => exact congrFun h []
  | cons x r ih =>
    have := congrFun h (x :: r)
    simp only [bump, ih] at this
    omega
theorem stp_stp (n : Str) (a b : Int) (A : List Nat → Int) : stp (n, a) (stp (n, b) A) = stp (n, a + b) A := by
  refine up_down (p := fun a => stp (n, a) (stp (n, b) A) = stp (n, a + b) A) ?_ (fun a => ?_) a
  · rw [stp_zero, Int.zero_add]
  · rw [show a + 1 + b = a + b + 1 by omega, stp_succ, stp_succ]
    exact ⟨fun h => by rw [h], bump_inj⟩
theorem wyA_ps (p : Pc) (w : List Pc) (B : List Nat → Int) : wyA (ps p w) B = stp p (wyA w B) := by
  unfold ps
  split
  · rename_i h
    have : p = (p.1, 0) := Prod.ext rfl h
    rw [this, stp_zero]
  · cases w with
    | nil => rfl
    | cons l r =>
      simp only
      split
      · rename_i e
        have el : l = (p.1, l.2) := Prod.ext e rfl
        have key : stp p (wyA (l :: r) B) = stp (p.1, p.2 + l.2) (wyA r B) := by
          show stp p (stp l (wyA r B)) = _
          rw [el]
          exact stp_stp p.1 p.2 l.2 (wyA r B)
        rw [key]
        split
        · rename_i hs
          rw [hs, stp_zero]
        · rfl
      · rfl
theorem wyA_act (c w : List Pc) (B : List Nat → Int) : wyA (act c w) B = wyA c (wyA w B) := by
  induction c with
  | nil => rfl
  | cons p c ih =>
    rw [act_cons, wyA_ps, ih]
    rfl
theorem wyA_nf (c : List Pc) (B : List Nat → Int) : wyA (nf c) B = wyA c B := wyA_act c [] B
theorem wyA_app (c d : List Pc) (B : List Nat → Int) : wyA (c ++ d) B = wyA c (wyA d B) := by simp [wyA, List.foldr_append]
theorem wy_nf (c : List Pc) : wy (nf c) = wy c := wyA_nf c one0
theorem wy_congr {c d : List Pc} (h : nf c = nf d) : wy c = wy d := by rw [← wy_nf c, h, wy_nf]
theorem wy_fall {c : List Pc} (h : nf c = []) : wy c = one0 := by rw [← wy_nf c, h]; rfl
theorem tim_congr {c d : List Pc} (h : nf c = nf d) : tim c = tim d := funext fun r => by rw [tim_wy, tim_wy, wy_congr h]
theorem ch_one (t : Int) : ch t 1 = t := ch_eq (by simp [fac, fal])
/-! ### how great -/
theorem two_le {a b : Nat} (h : a ≤ b) : (2 : Nat) ^ a ≤ 2 ^ b := Nat.pow_le_pow_right (by decide) h
theorem fal_bd {t : Int} (h : t.natAbs ≤ 2 ^ 120) : ∀ m : Nat, m ≤ 64 → (fal t m).natAbs ≤ 2 ^ (121 * m)
  | 0, _ => by show (1 : Int).natAbs ≤ 2 ^ (121 * 0); decide
  | m + 1, hm => by
    have ih := fal_bd h m (by omega)
    show (fal t m * (t - m)).natAbs ≤ _
    rw [Int.natAbs_mul, Nat.mul_succ, Nat.pow_add]
    refine Nat.mul_le_mul ih ?_
    have e1 : (2 : Nat) ^ 120 = 1329227995784915872903807060280344576 := by decide
    have e2 : (2 : Nat) ^ 121 = 2658455991569831745807614120560689152 := by decide
    omega
theorem ch_bd {t : Int} (h : t.natAbs ≤ 2 ^ 120) {m : Nat} (hm : m ≤ 64) : (ch t m).natAbs ≤ 2 ^ (121 * m) := by
  refine Nat.le_trans ?_ (fal_bd h m hm)
  rw [← ch_mul t m, Int.natAbs_mul]
  exact Nat.le_mul_of_pos_right _ (by have := fac_pos m; omega)
theorem fac_bd : ∀ m : Nat, m ≤ 64 → (fac m).natAbs ≤ 2 ^ (7 * m)
  | 0, _ => by decide
  | m + 1, hm => by
    have ih := fac_bd m (by omega)
    show (fac m * (m + 1)).natAbs ≤ _
    rw [Int.natAbs_mul, Nat.mul_succ, Nat.pow_add]
    refine Nat.mul_le_mul ih ?_
    have e2 : (2 : Nat) ^ 7 = 128 := by decide
    omega
/-- how long the run of a nail at the beginning is -/
def lead (n : Str) : List Nat → Nat
  | [] => 0
  | x :: r => if tx [x] = n then lead n r + 1 else 0
/-- no runs longer than this -/
def RL (M : Nat) : List Nat → Prop
  | [] => True
  | x :: r => lead (tx [x]) r + 1 ≤ M ∧ RL M r
theorem RL.lead {M : Nat} {n : Str} : ∀ {r : List Nat}, RL M r → lead n r ≤ M
  | [], _ => Nat.zero_le _
  | x :: r, h => by
    unfold NL.lead
    split
    · rename_i e
      rw [← e]
      exact h.1
    · exact Nat.zero_le _
theorem lead_le {n : Str} : ∀ {r : List Nat}, lead n r ≤ r.length
  | [] => Nat.zero_le _
  | x :: r => by
    unfold lead
    have := lead_le (n := n) (r := r)
    split <;> simp <;> omega
theorem RL.of {M : Nat} : ∀ {r : List Nat}, r.length ≤ M → RL M r
  | [], _ => trivial
  | x :: r, h => ⟨by have := lead_le (n := tx [x]) (r := r); simp at h; omega, RL.of (by simp at h; omega)⟩
theorem RL.tail {M : Nat} {x : Nat} {r : List Nat} (h : RL M (x :: r)) : RL M r := h.2
theorem RL.drop {M : Nat} : ∀ {r : List Nat} (i : Nat), RL M r → RL M (r.drop i)
  | r, 0, h => h
  | [], i + 1, h => h
  | x :: r, i + 1, h => by rw [List.drop_succ_cons]; exact RL.drop i h.2
/-- rows that end a row, and what they stand for, are so great at most -/
def Bdd (M N : Nat) (A : List Nat → Int) : Prop := ∀ r, RL M r → (A r).natAbs ≤ 2 ^ N
theorem xx_bd {M N F : Nat} {n : Str} {A : List Nat → Int} {f : Nat → Int} (hA : Bdd M N A) (hM : M ≤ 64) : ∀ (r : List Nat) (m : Nat), RL M r → m + lead n r ≤ M → (∀ j, j ≤ M → (f j).natAbs ≤ 2 ^ F) → (xx n A f m r).natAbs ≤ (lead n r + 1) * 2 ^ (N + F)
  | [], m, h, hl, hf => by
    show (A [] * f m).natAbs ≤ (0 + 1) * _
    rw [Int.natAbs_mul, Nat.pow_add, Nat.zero_add, Nat.one_mul]
    exact Nat.mul_le_mul (hA _ h) (hf m (by omega))
  | x :: r, m, h, hl, hf => by
    have e1 : (A (x :: r) * f m).natAbs ≤ 2 ^ (N + F) := by
      rw [Int.natAbs_mul, Nat.pow_add]
      exact Nat.mul_le_mul (hA _ h) (hf m (by omega))
    unfold xx NL.lead at *
    split
    · rename_i e
      rw [if_pos e] at hl
      have ih := xx_bd (n := n) hA hM r (m + 1) h.2 (by omega) hf
      rw [Nat.add_mul, Nat.one_mul]
      omega
    · rw [Nat.zero_add, Nat.one_mul, Int.add_zero]
      exact e1
theorem stp_bd {M N : Nat} {p : Pc} {A : List Nat → Int} (hA : Bdd M N A) (hM : M ≤ 64) (hp : p.2.natAbs ≤ 2 ^ 120) : Bdd M (N + (121 * M + 7)) (stp p A) := fun r h => by
  have h1 := xx_bd (n := p.1) (f := ch p.2) (F := 121 * M) hA hM r 0 h (by have := h.lead (n := p.1); omega) fun j hj => Nat.le_trans (ch_bd hp (by omega)) (two_le (by omega))
  have h2 := h.lead (n := p.1)
  have e : (2 : Nat) ^ (N + (121 * M + 7)) = 128 * 2 ^ (N + 121 * M) := by
    rw [show N + (121 * M + 7) = 7 + (N + 121 * M) by omega, Nat.pow_add]
  rw [e]
  exact Nat.le_trans h1 (Nat.mul_le_mul (by omega) (Nat.le_refl _))
theorem one_bd {M : Nat} : Bdd M 0 one0 := fun r _ => by cases r <;> simp [one0]
theorem tim_bd {M : Nat} (hM : M ≤ 64) : ∀ (c : List Pc) {A : List Nat → Int} {N : Nat}, (∀ p ∈ c, p.2.natAbs ≤ 2 ^ 120) → Bdd M N A → Bdd M (N + c.length * (121 * M + 7)) (c.foldl (fun A p => stp p A) A)
  | [], A, N, _, h => by simpa using h
  | p :: c, A, N, hc, h => by
    have := tim_bd hM c (fun q hq => hc q (by simp [hq])) (stp_bd h hM (hc p (by simp)))
    rw [List.foldl_cons, List.length_cons, Nat.add_mul, Nat.one_mul]
    rw [show N + (c.length * (121 * M + 7) + (121 * M + 7)) = N + (121 * M + 7) + c.length * (121 * M + 7) by omega]
    exact this
/-- what is still to come, behind the first so many -/
def rs (n : Str) (A : List Nat → Int) (f : Nat → Int) (m : Nat) : List Nat → Int
  | [] => 0
  | x :: r => if tx [x] = n then xx n A f (m + 1) r else 0
theorem rs_cons {n : Str} {A : List Nat → Int} {f : Nat → Int} {m x : Nat} {r : List Nat} : rs n A f m (x :: r) = if tx [x] = n then xx n A f (m + 1) r else 0 := rfl
theorem xx_rs {n : Str} {A : List Nat → Int} {f : Nat → Int} {m : Nat} {r : List Nat} : xx n A f m r = A r * f m + rs n A f m r := by
  cases r with
  | nil => simp [xx, rs]
  | cons x r => rfl
theorem mul_le {i j : Int} {a b : Nat} (h1 : i.natAbs ≤ 2 ^ a) (h2 : j.natAbs ≤ 2 ^ b) (h : a + b < 999990) : CMulW i j :=
  mulWn (a := a) (b := b) (Nat.lt_of_le_of_lt h1 (Nat.pow_lt_pow_right (by decide) (by omega))) (Nat.lt_of_le_of_lt h2 (Nat.pow_lt_pow_right (by decide) (by omega))) (by omega)
/-- turns of at most 120 binary figures -/
def Tb (c : List Pc) : Prop := ∀ p ∈ c, p.2.natAbs ≤ 2 ^ 120
theorem step_bd {t : Int} (ht : t.natAbs ≤ 2 ^ 120) {i : Nat} (hi : i ≤ 64) : (t - i).natAbs ≤ 2 ^ 121 := by
  have e1 : (2 : Nat) ^ 120 = 1329227995784915872903807060280344576 := by decide
  have e2 : (2 : Nat) ^ 121 = 2658455991569831745807614120560689152 := by decide
  omega
theorem rng1 {m : Nat} : rng 0 1 m = (List.range m).map fun i : Nat => (i : Int) := by
  unfold rng
  apply List.map_congr_left
  intro i _
  omega
theorem rng_next {m i : Nat} {k : Nat} {r : List Nat} (h : k :: r = (List.range m).drop i) : i < m ∧ k = i ∧ r = (List.range m).drop (i + 1) := by
  have hlt : i < m := by
    have := congrArg List.length h
    simp at this
    omega
  rw [List.drop_eq_getElem_cons (by simpa using hlt)] at h
  obtain ⟨h1, h2⟩ := List.cons.inj h
  exact ⟨hlt, by simpa using h1, h2⟩
theorem rng_end {m i : Nat} (h : [] = (List.range m).drop i) (hi : i ≤ m) : i = m := by
  have := congrArg List.length h
  simp at this
  omega
theorem wy_bd {M : Nat} (hM : M ≤ 64) : ∀ {c : List Pc}, Tb c → Bdd M (c.length * (121 * M + 7)) (wy c)
  | [], _ => by rw [List.length_nil, Nat.zero_mul]; exact one_bd
  | p :: c, h => by
    have := stp_bd (p := p) (wy_bd hM (c := c) fun q hq => h q (by simp [hq])) hM (h p (by simp))
    rw [List.length_cons, Nat.add_mul, Nat.one_mul]
    exact this
theorem Tb.tail {p : Pc} {c : List Pc} (h : Tb (p :: c)) : Tb c := fun q hq => h q (by simp [hq])
theorem Tb.of {b : Int} {c : List Pc} (h : Gds b c) (hb : b ≤ 1000000000000000000000000000000) : Tb c := fun p hp => by
  obtain ⟨_, h1, h2⟩ := h p hp
  have e1 : (2 : Nat) ^ 120 = 1329227995784915872903807060280344576 := by decide
  omega
theorem xx_run {n : Str} {x : Nat} (e : tx [x] = n) {f : Nat → Int} : ∀ (m k : Nat), xx n one0 f k (List.replicate m x) = f (k + m)
  | 0, k => by simp [xx, one0]
  | m + 1, k => by
    simp only [List.replicate_succ, xx, one0, if_pos e, xx_run e m (k + 1)]
    rw [Int.zero_mul, Int.zero_add]
    congr 1
    omega
theorem xx_off {n : Str} {x y : Nat} (e : tx [x] = n) (ne : tx [y] ≠ n) {f : Nat → Int} {r : List Nat} : ∀ (m k : Nat), xx n one0 f k (List.replicate m x ++ y :: r) = 0
  | 0, k => by simp [xx, one0, ne]
  | m + 1, k => by
    simp only [List.replicate_succ, List.cons_append, xx, one0, if_pos e, xx_off e ne m (k + 1)]
    simp
theorem xx_same {n : Str} {A B : List Nat → Int} {f : Nat → Int} {x : Nat} (h : ∀ m, A (List.replicate m x) = B (List.replicate m x)) : ∀ (m k : Nat), xx n A f k (List.replicate m x) = xx n B f k (List.replicate m x)
  | 0, k => by
    have := h 0
    simp only [List.replicate_zero] at this
    simp only [List.replicate_zero, xx, this]
  | m + 1, k => by
    have := h (m + 1)
    simp only [List.replicate_succ] at this
    simp only [List.replicate_succ, xx, this, xx_same h m (k + 1)]
theorem stp_side {p : Pc} {A : List Nat → Int} {x : Nat} (ne : tx [x] ≠ p.1) (m : Nat) : stp p A (List.replicate m x) = A (List.replicate m x) := by
  cases m with
  | zero => simp [stp, xx, ch_zero]
  | succ m => simp [stp, xx, ch_zero, List.replicate_succ, ne]
def tab (A : List Nat → Int) (l : List Nat) : List Int := (List.range (l.length + 1)).map fun e => A (l.take e).reverse
theorem tab_len {A : List Nat → Int} {l : List Nat} : (tab A l).length = l.length + 1 := by simp [tab]
theorem tab_at {A : List Nat → Int} {l : List Nat} {e : Nat} (h : e ≤ l.length) : (tab A l)[e]? = some (A (l.take e).reverse) := by
  unfold tab
  rw [List.getElem?_map, List.getElem?_range (by omega)]
  rfl
theorem tab_init {l : List Nat} : (tab one0 l).map D.int = D.int 1 :: ([] ++ l.map fun _ => D.int 0) := by
  rw [List.nil_append]
  unfold tab
  rw [List.range_succ_eq_map, List.map_cons, List.map_cons, List.map_map, List.map_map]
  congr 1
  apply List.ext_getElem
  · simp
  · intro i h1 h2
    simp at h1 h2
    simp only [List.getElem_map, List.getElem_range, Function.comp]
    have : (l.take (i + 1)).reverse ≠ [] := by
      simp
      intro z
      rw [z] at h2
      simp at h2
    cases q : (l.take (i + 1)).reverse with
    | nil => exact absurd q this
    | cons x r => rfl
theorem tab_of {A : List Nat → Int} {l : List Nat} {ts : List Int} (hl : ts.length = l.length + 1) (h : ∀ e, e ≤ l.length → ts[e]? = some (A (l.take e).reverse)) : ts = tab A l := by
  apply List.ext_getElem?
  intro i
  by_cases hi : i ≤ l.length
  · rw [h i hi, tab_at hi]
  · rw [List.getElem?_eq_none (by omega), List.getElem?_eq_none (by rw [tab_len]; omega)]
/-! ### rows with unlike neighbours -/
theorem lead0 {x : Nat} {r : List Nat} : lead (tx [x]) r = 0 ↔ r.head? ≠ some x := by
  cases r with
  | nil => simp [lead]
  | cons y r =>
    unfold lead
    by_cases e : y = x
    · subst e; simp
    · have : ¬ tx [y] = tx [x] := fun z => e (by simpa using tx_inj.mp z)
      simp [this, e]
theorem RL1_cons {x : Nat} {r : List Nat} : RL 1 (x :: r) ↔ r.head? ≠ some x ∧ RL 1 r := by
  rw [← lead0]
  show lead (tx [x]) r + 1 ≤ 1 ∧ _ ↔ _
  constructor
  · exact fun h => ⟨by omega, h.2⟩
  · exact fun h => ⟨by omega, h.2⟩
theorem RL1_snoc {x : Nat} : ∀ {r : List Nat}, RL 1 r → (∀ y, r.getLast? = some y → y ≠ x) → RL 1 (r ++ [x])
  | [], _, _ => RL1_cons.mpr ⟨by simp, trivial⟩
  | [y], h, g => RL1_cons.mpr ⟨by have := g y rfl; simp; exact fun z => this z.symm, RL1_cons.mpr ⟨by simp, trivial⟩⟩
  | y :: z :: r, h, g => by
    have h' := RL1_cons.mp h
    exact RL1_cons.mpr ⟨by simpa using h'.1, RL1_snoc (r := z :: r) h'.2 fun w hw => g w (by rw [List.getLast?_cons_cons]; exact hw)⟩
theorem RL1_rev : ∀ {r : List Nat}, RL 1 r → RL 1 r.reverse
  | [], _ => trivial
  | x :: r, h => by
    have h' := RL1_cons.mp h
    rw [List.reverse_cons]
    refine RL1_snoc (RL1_rev h'.2) fun y hy => ?_
    rw [List.getLast?_reverse] at hy
    intro z
    subst z
    exact h'.1 hy
/-- one of each nail at most -/
def stq (p : Pc) (A : List Nat → Int) : List Nat → Int
  | [] => A []
  | x :: r => A (x :: r) + if tx [x] = p.1 then A r * p.2 else 0
theorem stp_stq {p : Pc} {A : List Nat → Int} {r : List Nat} (h : RL 1 r) : stp p A r = stq p A r := by
  cases r with
  | nil => show A [] * ch p.2 0 = A []; rw [ch_zero, Int.mul_one]
  | cons x r =>
    show A (x :: r) * ch p.2 0 + (if tx [x] = p.1 then xx p.1 A (ch p.2) 1 r else 0) = A (x :: r) + if tx [x] = p.1 then A r * p.2 else 0
    rw [ch_zero, Int.mul_one]
    split
    · rename_i e
      have h' := RL1_cons.mp h
      rw [xx_rs, ch_one]
      have : rs p.1 A (ch p.2) 1 r = 0 := by
        cases r with
        | nil => rfl
        | cons y r =>
          rw [rs_cons, if_neg]
          intro z
          rw [← e] at z
          have : y = x := by simpa using tx_inj.mp z
          exact h'.1 (by rw [this]; rfl)
      rw [this, Int.add_zero]
    · rfl
theorem wy_nil (l : List Nat) : wy [] l = one0 l := rfl
theorem wy_cons1 {p : Pc} {c : List Pc} {x : Nat} {r : List Nat} (h : RL 1 (x :: r)) : wy (p :: c) (x :: r) = wy c (x :: r) + if tx [x] = p.1 then wy c r * p.2 else 0 := stp_stq (A := wy c) h
theorem wy_empty : ∀ c : List Pc, wy c [] = 1
  | [] => rfl
  | p :: c => by
    show stp p (wy c) [] = 1
    rw [stp_stq (r := []) trivial]
    exact wy_empty c
theorem wy_long : ∀ {c : List Pc} {l : List Nat}, RL 1 l → c.length < l.length → wy c l = 0
  | [], [], _, h => by simp at h
  | [], _ :: _, _, _ => rfl
  | p :: c, [], _, h => by simp at h
  | p :: c, x :: l, hr, h => by
    simp only [List.length_cons] at h
    rw [wy_cons1 hr, wy_long (c := c) hr (by simp; omega), wy_long (c := c) (RL1_cons.mp hr).2 (by omega)]
    simp
theorem lts_RL : ∀ {w : List Pc}, Nl w → Red w → RL 1 (lts w)
  | [], _, _ => trivial
  | [p], h, _ => by
    obtain ⟨x, hx, _⟩ := h p (by simp)
    rw [lts_cons hx]
    exact RL1_cons.mpr ⟨by simp [lts], trivial⟩
  | p :: q :: w, h, hr => by
    obtain ⟨x, hx, _⟩ := h p (by simp)
    obtain ⟨y, hy, _⟩ := h q (by simp)
    have ih := lts_RL h.tail hr.2.2
    rw [lts_cons hx]
    refine RL1_cons.mpr ⟨?_, ih⟩
    rw [lts_cons hy]
    intro z
    have : y = x := by simpa using z
    exact hr.2.1 (by rw [hx, hy, this])
/-- the row of runs stands in them as often as the turns' product -/
theorem wy_runs : ∀ {w : List Pc}, Nl w → Red w → wy w (lts w) = prd w
  | [], _, _ => rfl
  | p :: w, h, hr => by
    obtain ⟨x, hx, _⟩ := h p (by simp)
    have hrl := lts_RL h hr
    rw [lts_cons hx] at hrl ⊢
    rw [wy_cons1 hrl, wy_long hrl (by rw [List.length_cons, lts_len h.tail]; omega), if_pos hx.symm, wy_runs h.tail hr.tail]
    show 0 + prd w * p.2 = p.2 * prd w
    grind
theorem prd_bd : ∀ {c : List Pc}, Tb c → (prd c).natAbs ≤ 2 ^ (c.length * 120)
  | [], _ => by decide
  | p :: c, h => by
    show (p.2 * prd c).natAbs ≤ _
    rw [Int.natAbs_mul, List.length_cons, Nat.succ_mul, Nat.pow_add, Nat.mul_comm]
    exact Nat.mul_le_mul (prd_bd h.tail) (h p (by simp))
theorem prd_app (a b : List Pc) : prd (a ++ b) = prd a * prd b := by
  induction a with
  | nil => show prd b = 1 * prd b; omega
  | cons p a ih => show p.2 * prd (a ++ b) = p.2 * prd a * prd b; rw [ih, Int.mul_assoc]
theorem Tb.nf {b : Int} {c : List Pc} (h : Gds b c) (b0 : 0 ≤ b) (hb : b ≤ 1000000000000000000000000000000) (hl : c.length ≤ 100000) : Tb (nf c) := fun p hp => by
  have e1 : (2 : Nat) ^ 120 = 1329227995784915872903807060280344576 := by decide
  have := nf_bd b0 (fun p hp => (h p hp).2) p hp
  have hm : (c.length : Int) * b ≤ 100000 * 1000000000000000000000000000000 := Int.mul_le_mul (by omega) hb b0 (by omega)
  omega
/-! ### the shortest end of a row that stands in a cord -/
def fndL (b one other : List Pc) (row : List Nat) : List Nat → D
  | [] => .non
  | s :: r => if wy b (row.drop (row.length - s)) = 0 then fndL b one other row r else .tup [.str (tx (row.drop (row.length - s))), .int (wy one (row.drop (row.length - s))), .int (wy other (row.drop (row.length - s)))]
def told (one other : List Pc) : D := fndL (nf (con one ++ other)) one other (lts (nf (con one ++ other))) ((List.range (lts (nf (con one ++ other))).length).map (· + 1))
theorem wyA_low {B : List Nat → Int} {e : List Nat} (hr : RL 1 e) (hB : ∀ s, s <:+ e → s ≠ e → B s = one0 s) : ∀ (c : List Pc) (s : List Nat), s <:+ e → s ≠ e → wyA c B s = wy c s
  | [], s, h1, h2 => hB s h1 h2
  | p :: c, [], h1, h2 => by
    rw [wy_empty]
    show stp p (wyA c B) [] = 1
    rw [stp_stq (r := []) trivial]
    show wyA c B [] = 1
    rw [wyA_low hr hB c [] h1 h2, wy_empty]
  | p :: c, x :: r, h1, h2 => by
    have hs : RL 1 (x :: r) := by
      obtain ⟨t, ht⟩ := h1
      have := RL.drop t.length hr
      rw [← ht, List.drop_left] at this
      exact this
    have hr1 : r <:+ e := (List.suffix_cons x r).trans h1
    have hr2 : r ≠ e := fun z => by
      have := h1.length_le
      rw [← z, List.length_cons] at this
      omega
    rw [wy_cons1 hs]
    show stp p (wyA c B) (x :: r) = _
    rw [stp_stq hs]
    show wyA c B (x :: r) + (if tx [x] = p.1 then wyA c B r * p.2 else 0) = _
    rw [wyA_low hr hB c _ h1 h2, wyA_low hr hB c r hr1 hr2]
theorem wyA_top {B : List Nat → Int} {x : Nat} {r : List Nat} (hr : RL 1 (x :: r)) (hB : ∀ s, s <:+ (x :: r) → s ≠ x :: r → B s = one0 s) : ∀ c : List Pc, wyA c B (x :: r) = wy c (x :: r) + B (x :: r)
  | [] => by show B (x :: r) = 0 + B (x :: r); omega
  | p :: c => by
    rw [wy_cons1 hr]
    show stp p (wyA c B) (x :: r) = _
    rw [stp_stq hr]
    show wyA c B (x :: r) + (if tx [x] = p.1 then wyA c B r * p.2 else 0) = _
    rw [wyA_top hr hB c, wyA_low hr hB c r (List.suffix_cons x r) (fun z => by have := congrArg List.length z; simp at this)]
    omega
theorem told_nf (one other : List Pc) : nf (one ++ nf (con one ++ other)) = nf other := by
  rw [← nf_appR, ← List.append_assoc]
  have := (eqv_con one).app (Eqv.refl other)
  simpa using this.nf
/-- what is told of two cords: none just where they are one, else unlike numbers -/
theorem fnd_ne {one other : List Pc} (hn : Nl one) (hm : Nl other) : ∀ (ss : List Nat) (k : Nat), ss = ((List.range (lts (nf (con one ++ other))).length).drop k).map (· + 1) → (∀ s, s <:+ lts (nf (con one ++ other)) → s.length ≤ k → wy (nf (con one ++ other)) s = one0 s) →
    fndL (nf (con one ++ other)) one other (lts (nf (con one ++ other))) ss = .non ∧ (∀ s, s <:+ lts (nf (con one ++ other)) → wy (nf (con one ++ other)) s = one0 s) ∨
    ∃ (e : List Nat) (i j : Int), fndL (nf (con one ++ other)) one other (lts (nf (con one ++ other))) ss = .tup [.str (tx e), .int i, .int j] ∧ i ≠ j ∧ e <:+ lts (nf (con one ++ other)) := fun ss k hk hz => by
  have hb : RL 1 (lts (nf (con one ++ other))) := lts_RL (hn.con.app hm).nf (nf_red _)
  generalize hrow : lts (nf (con one ++ other)) = row at hk hz hb ⊢
  induction ss generalizing k with
  | nil =>
    left
    refine ⟨rfl, fun s hs => hz s hs ?_⟩
    have h1 := congrArg List.length hk
    simp at h1
    have := hs.length_le
    omega
  | cons s ss ih =>
    have hlt : k < row.length := by
      have h1 := congrArg List.length hk
      simp at h1
      omega
    rw [List.drop_eq_getElem_cons (by simpa using hlt), List.map_cons] at hk
    obtain ⟨h1, h2⟩ := List.cons.inj hk
    simp at h1
    subst h1
    unfold fndL
    split
    · rename_i h0
      refine ih (k + 1) h2 fun s hs hl => ?_
      rcases Nat.lt_or_ge s.length (k + 1) with w | w
      · exact hz s hs (by omega)
      · have es : s = row.drop (row.length - (k + 1)) := by
          rw [List.suffix_iff_eq_drop] at hs
          rw [hs]
          congr 1
          have := congrArg List.length hs
          simp at this
          omega
        rw [es, h0]
        cases hd : row.drop (row.length - (k + 1)) with
        | nil =>
          have := congrArg List.length hd
          simp at this
          omega
        | cons x r => rfl
    · rename_i h0
      right
      refine ⟨_, _, _, rfl, ?_, List.drop_suffix _ _⟩
      have hsuf : row.drop (row.length - (k + 1)) <:+ row := List.drop_suffix _ _
      have hlen : (row.drop (row.length - (k + 1))).length = k + 1 := by simp; omega
      have hre : RL 1 (row.drop (row.length - (k + 1))) := hb.drop _
      generalize row.drop (row.length - (k + 1)) = e at h0 hsuf hlen hre ⊢
      cases e with
      | nil => simp at hlen
      | cons x r =>
        have hB : ∀ s, s <:+ (x :: r) → s ≠ x :: r → wy (nf (con one ++ other)) s = one0 s := fun s hs hne => by
          refine hz s (hs.trans hsuf) ?_
          have l1 := hs.length_le
          have l2 : s.length ≠ (x :: r).length := fun z => hne (hs.eq_of_length z)
          omega
        have key : wy other (x :: r) = wy one (x :: r) + wy (nf (con one ++ other)) (x :: r) := by
          rw [← wyA_top hre hB one]
          show wy other _ = wyA one (wyA (nf (con one ++ other)) one0) _
          rw [← wyA_app]
          show wy other _ = wy (one ++ nf (con one ++ other)) _
          rw [wy_congr (told_nf one other)]
        omega
theorem told_same (one : List Pc) : told one one = .non := by
  unfold told
  rw [nf_con']
  rfl
theorem rng11 {n : Nat} : (rng 1 1 n).map D.int = ((List.range n).map (· + 1)).map fun s : Nat => D.int s := by
  unfold rng
  rw [List.map_map, List.map_map]
  apply List.map_congr_left
  intro i _
  simp only [Function.comp]
  congr 1
  omega
theorem Tb.app {c d : List Pc} (h : Tb c) (g : Tb d) : Tb (c ++ d) := fun p hp => (List.mem_append.mp hp).elim (h p) (g p)
theorem Tb.con {c : List Pc} (h : Tb c) : Tb (con c) := fun q hq => by
  obtain ⟨p, hp, rfl⟩ := List.mem_map.mp hq
  have := h p (List.mem_reverse.mp hp)
  show (-p.2).natAbs ≤ 2 ^ 120
  rw [Int.natAbs_neg]
  exact this
theorem lts_ok : ∀ {c : List Pc}, Nl c → ∀ x ∈ lts c, 97 ≤ x ∧ x ≤ 122
  | [], _, x, h => by simp [lts] at h
  | p :: c, hn, x, h => by
    obtain ⟨y, hy, h1, h2⟩ := hn p (by simp)
    rw [lts_cons hy] at h
    rcases List.mem_cons.mp h with z | z
    · rw [z]; exact ⟨h1, h2⟩
    · exact lts_ok hn.tail x z
theorem told_cases {one other : List Pc} (hn : Nl one) (hm : Nl other) : told one other = .non ∨ ∃ (e : List Nat) (i j : Int), told one other = .tup [.str (tx e), .int i, .int j] ∧ i ≠ j ∧ PyData.strOk (tx e) = true := by
  rcases fnd_ne hn hm _ 0 rfl (fun s _ hl => by
    have : s = [] := List.length_eq_zero_iff.mp (by omega)
    rw [this, wy_empty]; rfl) with h | ⟨e, i, j, h1, h2, h3⟩
  · exact .inl h.1
  · exact .inr ⟨e, i, j, h1, h2, tx_ok fun x hx => lts_ok (hn.con.app hm).nf x (h3.subset hx)⟩
end NL

/-! < of data; sorted of data, by an own key too. -/
namespace NL
open PySem PySem.Spec L2
open PyProof.Rows hiding St
/-! ### the order of data -/
def py (d : D) : PyData := toPy 20 d
def dlt (d e : D) : Bool := PySem.W.dataLt (py d) (py e)
def dle (d e : D) : Bool := !dlt e d
def lik (d e : D) : Prop := PySem.W.alike (py d) (py e) = true
def sorD (xs : List D) : List D := xs.mergeSort dle
/-- what can be sorted -/
def Srt1 (xs : List D) : Prop := (∀ x ∈ xs, nb 20 x = true) ∧ (∀ x ∈ xs, ∀ y ∈ xs, lik x y) ∧ PySem.W.Sortable (xs.map py)
section
variable {X : Cx}
theorem op_ltD (hu : X.A.units + 64 < cLine) : OpR X (compareOp .Lt) (fun x y H Q => ∃ d e, Dp X.K H x d ∧ Dp X.K H y e ∧ PySem.W.alike d e = true ∧ d ≠ .none ∧ d.depth ≤ 40 ∧ Q (.bl (PySem.W.dataLt d e)) H) := by
  intro pins s σ H x y v u Q I rx ry h
  obtain ⟨d, e, hd, he, ha, hn, hz, q⟩ := h
  obtain ⟨as, r1⟩ := Dp.reads I d x v hd rx
  obtain ⟨bs, r2⟩ := Dp.reads I e y u he ry
  exact PySem.W.rcLt_alike d e X.A s v u as bs r1 r2 ha hn (by omega) X.prog X.w _ _ ⟨.bl _, H, I, rfl, q⟩
theorem py_depth {d : D} (h : nb 20 d = true) : (py d).depth ≤ 20 := (nb_shape 20 d h).2
end
variable [KC]
section
variable {X : Cx}
def gLtD : D → D → (D → Prop) → Prop := fun d e Q => (nb 20 d = true ∧ nb 20 e = true) ∧ lik d e ∧ isN d = false ∧ Q (.bl (dlt d e))
theorem py_non {d : D} (h : nb 20 d = true) (n : isN d = false) : py d ≠ .none := by
  cases d <;> simp_all [nb, isN, py, toPy]
theorem dLtD {k : Nat} (hr : Room k X.A) (hK : X.K = KC.K := by rfl) : OpD X (compareOp .Lt) gLtD := by
  refine ⟨_, op_ltD hr.units, fun d e Q h H S u v Q' sh hd he k => ?_⟩
  obtain ⟨⟨n1, n2⟩, h1, h2, q⟩ := h
  exact ⟨_, _, nb_dp 20 _ u n1 (hd.full sh), nb_dp 20 _ v n2 (he.full sh), h1, py_non n1 h2, Nat.le_trans (py_depth n1) (by decide), k _ _ H S q (.refl sh) .b⟩
/-! ### sorted(xs) -/
omit [KC] in
theorem dpAll_each {pins : List (Addr × Obj)} {σ : L2.St} {H : Hp} {s : Shared} (I : Inv X pins σ H s) : ∀ (ds : List D) (vs : List V) (us : List Value), (∀ d ∈ ds, nb 20 d = true) → (∀ (i : Nat) (d : D) (v : V), ds[i]? = some d → vs[i]? = some v → Dp X.K H v (py d)) → Vals vs us → ds.length = vs.length →
    PySem.W.EachIs (fun u d => ∃ as, Reads s.heap u (py d) as) us ds
  | [], [], us, _, _, r, _ => by cases r; exact .nil
  | [], _ :: _, _, _, _, _, e => by simp at e
  | _ :: _, [], _, _, _, _, e => by simp at e
  | d :: ds, v :: vs, _, hn, hd, .cons r t, e => by
    obtain ⟨as, z⟩ := Dp.reads I (py d) v _ (hd 0 d v rfl rfl) r
    exact .cons ⟨as, z⟩ (dpAll_each I ds vs _ (fun d m => hn d (by simp [m])) (fun i d v h1 h2 => hd (i + 1) d v (by simpa using h1) (by simpa using h2)) t (by simpa using e))
omit [KC] in
/-- the values V of an arrangement -/
theorem each_back : ∀ {R : Value → (V × D) → Prop} {us : List Value} {ps : List (V × D)}, PySem.W.EachIs R us ps → (∀ u p, R u p → RelV p.1 u) → Vals (ps.map (·.1)) us
  | _, _, _, .nil, _ => .nil
  | _, _, _, .cons h t, f => .cons (f _ _ h) (each_back t f)
def rSortedD (K : PySem.W.Frag) : List V → Hp → VK → Prop := fun vs H Q => ∃ (a : Addr) (xs : List V) (ds : List D), vs = [V.ref a] ∧ SqL K H a xs ∧ xs.length = ds.length ∧ Srt1 ds ∧
  (∀ (i : Nat) (d : D) (v : V), ds[i]? = some d → xs[i]? = some v → Dp K H v (py d)) ∧
  ∀ p, H p = none → Q (.ref p) (upd H p (.lst (((xs.zip ds).mergeSort fun a b => dle a.2 b.2).map (·.1))))
omit [KC] in
theorem cr_sortedD {k : Nat} (hr : Room k X.A) : CallR X (.builtin "sorted") (rSortedD X.K) := by
  intro pins s σ H vs us Q I r h
  obtain ⟨a, xs, ds, rfl, hs, hl, ⟨hn, hal, hso⟩, hd, q⟩ := h
  obtain ⟨its, rv, hL, hz⟩ := I.list hs
  rw [Vals.ref1 r]
  have e1 := dpAll_each I ds xs its hn hd rv hl.symm
  have il : its.length = ds.length := by rw [← rv.length]; exact hl
  have e2 : PySem.W.EachIs (fun u (p : V × D) => RelV p.1 u ∧ ∃ as, Reads s.heap u (py p.2) as) its (xs.zip ds) := by
    refine PySem.W.EachIs.of_zip (by simp; omega) fun p hp => ?_
    obtain ⟨i, hi⟩ := List.mem_iff_getElem?.mp hp
    rw [List.getElem?_zip_eq_some] at hi
    obtain ⟨h1, h2⟩ := hi
    rw [List.getElem?_zip_eq_some] at h2
    obtain ⟨u, hu, ru⟩ := rv.get h2.1
    rw [h1] at hu
    cases hu
    exact ⟨ru, e1.zip (p.1, p.2.2) (List.mem_iff_getElem?.mpr ⟨i, by rw [List.getElem?_zip_eq_some]; exact ⟨h1, h2.2⟩⟩)⟩
  have em : (xs.zip ds).map (fun p => py p.2) = ds.map py := by
    rw [show (fun p : V × D => py p.2) = py ∘ Prod.snd from rfl, ← List.map_map, List.map_snd_zip (by omega)]
  have hm : ∀ p ∈ xs.zip ds, nb 20 p.2 = true := fun p hp => hn _ (List.of_mem_zip (a := p.1) (b := p.2) hp).2
  refine PySem.W.sorted_data (bs := xs.zip ds) (enc := fun p => py p.2) hL.isList e2 (e2.mono fun _ _ z => z.2) ?_ (by rw [em]; exact hso) (by simp; omega) (fun p hp => ?_) fun out ho h1 => ?_
  · rw [em]
    intro x hx y hy
    obtain ⟨x, mx, rfl⟩ := List.mem_map.mp hx
    obtain ⟨y, my, rfl⟩ := List.mem_map.mp hy
    exact hal x mx y my
  · have := py_depth (hm p hp)
    have := hr.units
    omega
  · have hv := each_back h1 fun _ _ z => z.1
    have es : PySem.W.dataLe false (fun p : V × D => py p.2) = fun a b => dle a.2 b.2 := rfl
    rw [es] at hv
    obtain ⟨ep, he'⟩ := PyProof.Rows.sortedAll_at s.heap its (List.toArray out)
    have hlen : ((((xs.zip ds).mergeSort fun a b => dle a.2 b.2).map (·.1))).length ≤ sizeLine := by simp; omega
    exact ⟨.ref _, upd H (s.heap.objs.size + 1) (.lst (((xs.zip ds).mergeSort fun a b => dle a.2 b.2).map (·.1))), I.laid (t' := s.toks) (fun _ _ => PyProof.Rows.sortedAll_old) (Nat.le_succ _) ⟨hlen, out, ep, hv, he'⟩, rfl, q _ (I.hok.fresh (Nat.le_succ _))⟩
def gSorted : List D → (List D → Prop) → Prop
  | [.lst xs], Q => Srt1 xs ∧ Q (sorD xs)
  | _, _ => False
omit [KC] in
theorem zip_sort (xs : List V) (ds : List D) (h : xs.length = ds.length) : ((xs.zip ds).mergeSort fun a b => dle a.2 b.2).map (·.2) = sorD ds := by
  unfold sorD
  rw [PySem.W.sort_maps (s := dle) (fun p : V × D => p.2) fun _ _ _ _ => rfl, List.map_snd_zip (by omega)]
theorem dats_perm {S : Hp} : ∀ {ps qs : List (V × D)}, ps.Perm qs → Dats S (qs.map (·.2)) (qs.map (·.1)) → Dats S (ps.map (·.2)) (ps.map (·.1)) := by
  have all : ∀ (qs : List (V × D)), Dats S (qs.map (·.2)) (qs.map (·.1)) ↔ ∀ p ∈ qs, Dat S p.2 p.1 := fun qs => by
    induction qs with
    | nil => simp; exact .nil
    | cons p qs ih =>
      constructor
      · intro h
        simp only [List.map_cons] at h
        unfold Dats at h
        obtain ⟨v, r, e, h1, h2⟩ := h
        cases e
        intro q hq
        rcases List.mem_cons.mp hq with z | z
        · rw [z]; exact h1
        · exact ih.mp h2 q z
      · intro h
        exact Dats.cons (h p (by simp)) (ih.mpr fun q hq => h q (by simp [hq]))
  intro ps qs hp h
  rw [all] at h ⊢
  exact fun p m => h p (hp.mem_iff.mp m)
theorem cSorted {k : Nat} (hr : Room k X.A) (hK : X.K = KC.K := by rfl) : CalF X (.builtin "sorted") gSorted := by
  refine ⟨_, cr_sortedD hr, fun ds Q h H S vs Q' sh hd k => ?_⟩
  unfold gSorted at h
  split at h
  · rename_i xs
    obtain ⟨hx, q⟩ := h
    obtain ⟨v, rfl, hz⟩ := hd.one
    obtain ⟨a, ws, rfl, r, z⟩ := hz
    refine ⟨a, ws, xs, rfl, .of r, z.len, hx, fun i d v h1 h2 => ?_, fun p hp => ?_⟩
    · obtain ⟨y, hy, hd⟩ := z.get h1
      rw [h2] at hy
      cases hy
      exact nb_dp 20 d v (hx.1 d (List.mem_of_getElem? h1)) (Dat.mono sh _ _ hd)
    · refine k (sorD xs) _ p q hp ?_
      rw [← zip_sort ws xs z.len]
      refine dats_perm (List.mergeSort_perm _ _) ?_
      have l := z.len
      rw [List.map_snd_zip (by omega), List.map_fst_zip (by omega)]
      exact z
  · exact h.elim
/-! ### a text in a list or tuple of texts -/
def strD : D → Bool
  | .str _ => true
  | _ => false
def hasS (s : Str) (xs : List D) : Bool := xs.any fun d => match d with
  | .str t => decide (t = s)
  | _ => false
theorem inV_str {S : Hp} {s : Str} : ∀ {xs : List D} {vs : List V}, Dats S xs vs → xs.all strD = true → vs.all flatV = true ∧ inV (.str s) vs = hasS s xs
  | [], vs, h, _ => by unfold Dats at h; subst h; exact ⟨rfl, rfl⟩
  | x :: xs, vs, h, f => by
    unfold Dats at h
    obtain ⟨v, r, rfl, h1, h2⟩ := h
    rw [List.all_cons, Bool.and_eq_true] at f
    obtain ⟨i1, i2⟩ := inV_str (s := s) h2 f.2
    cases x with
    | str t =>
      unfold Dat at h1
      subst h1
      refine ⟨by rw [List.all_cons, i1]; rfl, ?_⟩
      unfold inV hasS at i2 ⊢
      rw [List.any_cons, List.any_cons, i2]
      congr 1
    | _ => exact absurd (show false = true from f.1) (by decide)
def gInT (neg : Bool) : D → D → (D → Prop) → Prop
  | .str s, .lst xs, Q => xs.all strD = true ∧ Q (.bl (neg ^^ hasS s xs))
  | .str s, .tup xs, Q => xs.all strD = true ∧ Q (.bl (neg ^^ hasS s xs))
  | _, _, _ => False
theorem dInT (hK : X.K = KC.K := by rfl) : OpD X (compareOp .In) (gInT false) := by
  refine ⟨_, op_in_seq, fun d e Q h H S u v Q' sh hd he k => ?_⟩
  unfold gInT at h
  split at h
  · obtain ⟨f, q⟩ := h
    cases hd.s
    obtain ⟨a, ws, rfl, r, z⟩ := he
    obtain ⟨i1, i2⟩ := inV_str z f
    exact ⟨a, ws, rfl, .inl (.of r), rfl, i1, by rw [i2]; simpa using k _ _ H S q (.refl sh) .b⟩
  · obtain ⟨f, q⟩ := h
    cases hd.s
    simp only [BDat, Dat] at he
    obtain ⟨a, ws, rfl, r, z⟩ := he
    obtain ⟨i1, i2⟩ := inV_str z f
    exact ⟨a, ws, rfl, .inr (.of (sh _ _ r)), rfl, i1, by rw [i2]; simpa using k _ _ H S q (.refl sh) .b⟩
  · exact h.elim
theorem dNotInT (hK : X.K = KC.K := by rfl) : OpD X (compareOp .NotIn) (gInT true) := by
  refine ⟨_, op_notIn_seq, fun d e Q h H S u v Q' sh hd he k => ?_⟩
  unfold gInT at h
  split at h
  · obtain ⟨f, q⟩ := h
    cases hd.s
    obtain ⟨a, ws, rfl, r, z⟩ := he
    obtain ⟨i1, i2⟩ := inV_str z f
    exact ⟨a, ws, rfl, .inl (.of r), rfl, i1, by rw [i2]; simpa using k _ _ H S q (.refl sh) .b⟩
  · obtain ⟨f, q⟩ := h
    cases hd.s
    simp only [BDat, Dat] at he
    obtain ⟨a, ws, rfl, r, z⟩ := he
    obtain ⟨i1, i2⟩ := inV_str z f
    exact ⟨a, ws, rfl, .inr (.of (sh _ _ r)), rfl, i1, by rw [i2]; simpa using k _ _ H S q (.refl sh) .b⟩
  · exact h.elim
/-! ### t + u, tuples, none of them empty -/
def gAddT : D → D → (D → Prop) → Prop
  | .tup xs, .tup ys, Q => (xs ≠ [] ∧ ys ≠ [] ∧ xs.length + ys.length ≤ sizeLine) ∧ Q (.tup (xs ++ ys))
  | _, _, _ => False
theorem dCatT (hK : X.K = KC.K := by rfl) : OpD X (binaryOp .Add) gAddT := by
  refine ⟨_, op_catT, fun d e Q h H S u v Q' sh hd he k => ?_⟩
  unfold gAddT at h
  split at h
  · obtain ⟨⟨n1, n2, hl⟩, q⟩ := h
    simp only [BDat, Dat] at hd he
    obtain ⟨a, vs, rfl, r1, z1⟩ := hd
    obtain ⟨b, ws, rfl, r2, z2⟩ := he
    have l1 := z1.len
    have l2 := z2.len
    refine ⟨a, b, vs, ws, rfl, rfl, .of (sh _ _ r1), .of (sh _ _ r2), fun e => n1 (List.eq_nil_of_length_eq_zero (by rw [← l1, e]; rfl)), by omega, fun e => absurd (List.eq_nil_of_length_eq_zero (by rw [← l2, e]; rfl)) n2, fun _ p hp => ?_⟩
    obtain ⟨g, y⟩ := lay_tup sh hp (z1.app z2)
    exact k _ _ _ _ q g y
  · exact h.elim
/-! ### a new list made while a slot's own list is read as shared -/
theorem Rep.frzAt {F : Fr} {ρ : Ev} {σ : L2.St} {H S : Hp} {i : Nat} {c : Cn} {p : Addr} {o : HO} (r : Rep F ρ σ H S) (h : ρ[i]? = some (.own false c)) (e1 : σ[i]? = some (some (.ref p))) (e2 : S p = none) (e3 : H p = some o) (e4 : CnOk S c o) (h0 : F.H0 p = none) :
    Rep F (ρ.set i (.fz c.d)) σ H (upd S p o) := by
  have hl : i < ρ.length := (List.getElem?_eq_some_iff.mp h).1
  have ss : Same S (upd S p o) := same_upd e2
  refine ⟨⟨r.fg.hh, r.fg.al, r.fg.ss.trans ss, same_upd2 r.fg.sh e3, fun a ha => ?_, r.fg.ft, r.fg.tb.frz e3 e4.ntb.1⟩, by simp [r.len], fun j sl e => ?_, fun j k m1 m2 c1 c2 n q1 q2 => ?_⟩
  · rw [upd_ne (fun z => ha (by rw [z]; exact h0))]
    exact r.fg.nw a ha
  · by_cases z : i = j
    · subst z
      rw [List.getElem?_set_self hl] at e
      cases e
      exact ⟨.ref p, e1, CnOk.dat upd_same (e4.mono ss)⟩
    · rw [List.getElem?_set_ne z] at e
      have q := r.at' j sl e
      cases sl with
      | un => trivial
      | fz d =>
        obtain ⟨v, f1, f2⟩ := q
        exact ⟨v, f1, Dat.mono ss d v f2⟩
      | own m3 c3 =>
        obtain ⟨p3, o3, f1, f2, f3, f4, f5⟩ := q
        refine ⟨p3, o3, f1, ?_, f3, f4.mono ss, f5⟩
        rw [upd_ne (fun z3 => r.dist i j false m3 c c3 z h e (by rw [e1, f1, z3]))]
        exact f2
  · have conv : ∀ (l : Nat) (m4 : Bool) (c4 : Cn), (ρ.set i (.fz c.d))[l]? = some (.own m4 c4) → ρ[l]? = some (.own m4 c4) := fun l m4 c4 q => by
      by_cases z : i = l
      · subst z
        rw [List.getElem?_set_self hl] at q
        cases q
      · rw [List.getElem?_set_ne z] at q
        exact q
    exact r.dist j k _ _ _ _ n (conv _ _ _ q1) (conv _ _ _ q2)
def wThaw (i : Nat) (wl : WL) : WL := fun x ρ Q => match ρ[i]? with
  | some (.own false c) => wl x (ρ.set i (.fz c.d)) fun xs => nls xs = true ∧ Q xs
  | some (.fz _) => wl x ρ Q
  | _ => False
theorem df_thaw {E : XK} {e : Expr} {wl : WL} (i : Nat) (h : DF X E e wl) : DF X E e (wThaw i wl) := by
  obtain ⟨t, p, s⟩ := h.ex
  refine ⟨t, p, fun x ρ Q hw F σ H S Q' rp ex k => ?_⟩
  unfold wThaw at hw
  split at hw
  · rename_i c hi
    obtain ⟨p, o, e1, e2, e3, e4, _, e6⟩ := rp.own hi
    have nt : ∀ xs, o ≠ .tup xs := fun xs z => by
      subst z
      cases c with
      | lst ys => obtain ⟨vs, z, _⟩ := e4; cases z
      | dct ks ys => obtain ⟨vs, z, _⟩ := e4; cases z
      | obj _ _ ys => obtain ⟨dx, vs, z, _⟩ := e4; cases z
    have eP : upd S p o = plusS H S [.ref p] := by
      funext a
      unfold plusS upd
      by_cases z : a = p
      · subst z
        rw [if_pos rfl, if_pos ⟨e2, by simp [tops], o, e3, nt, e4.ntb.1⟩, e3]
      · rw [if_neg z, if_neg (fun w => by have := w.2.1; simp [tops] at this; exact z this.symm)]
    have r2 := rp.frzAt hi e1 e2 e3 e4 (e6 rfl)
    rw [eP] at r2
    have x2 : ExOk X.mg E x H (plusS H S [.ref p]) := fun n C H' S' a b g => ex n C H' _ a b (minus_grow rp.sh g)
    refine s x _ _ hw F σ H _ _ r2 x2 fun xs q vs H' S' hq g h0 h1 h2 h3 => ?_
    refine k xs q vs H' (minusS H S S' [.ref p]) hq.2 (minus_grow rp.sh g) h0 ?_ h2 (minus_dats g xs vs hq.1 h3)
    unfold minusS
    split
    · rfl
    · exact h1
  · exact s x ρ Q hw F σ H S Q' rp ex k
  · exact hw.elim
/-! ### max(xs), min(xs) of whole numbers -/
def gMaxL : List D → (D → Prop) → Prop
  | [.lst xs], Q => ∃ ns : List Int, xs = ns.map D.int ∧ 0 < ns.length ∧ ∀ m, m ∈ ns → (∀ y ∈ ns, y ≤ m) → Q (.int m)
  | _, _ => False
theorem cMaxL (hc : X.calm = true) (hK : X.K = KC.K := by rfl) : CalD X (.builtin "max") gMaxL := by
  refine ⟨_, cr_max hc, fun ds Q h H S vs Q' sh hd k => ?_⟩
  unfold gMaxL at h
  split at h
  · obtain ⟨ns, rfl, hl, q⟩ := h
    obtain ⟨v, rfl, hz⟩ := hd.one
    obtain ⟨a, ws, rfl, r, z⟩ := hz
    have := z.ofInts
    subst this
    exact ⟨a, ns, rfl, .of r, hl, fun m h1 h2 => k _ _ H S (q m h1 h2) (.refl sh) .i⟩
  · exact h.elim
end
end NL

/-! Moves. -/
namespace NL
open PySem PySem.Spec L2
open PyProof.Rows hiding St
/-- a cord of some nails -/
def On (l : List Nat) (c : List Pc) : Prop := ∀ p ∈ c, ∃ y ∈ l, p.1 = tx [y]
theorem on_app {l : List Nat} {a b : List Pc} (h : On l a) (g : On l b) : On l (a ++ b) := fun p hp => (List.mem_append.mp hp).elim (h p) (g p)
theorem on_con {l : List Nat} {a : List Pc} (h : On l a) : On l (con a) := fun p hp => by
  obtain ⟨q, hq, rfl⟩ := List.mem_map.mp hp
  exact h q (List.mem_reverse.mp hq)
theorem bd_app {b : Int} {a c : List Pc} (h : ∀ p ∈ a, -b ≤ p.2 ∧ p.2 ≤ b) (g : ∀ p ∈ c, -b ≤ p.2 ∧ p.2 ≤ b) : ∀ p ∈ a ++ c, -b ≤ p.2 ∧ p.2 ≤ b := fun p hp => (List.mem_append.mp hp).elim (h p) (g p)
theorem bd_con {b : Int} {a : List Pc} (h : ∀ p ∈ a, -b ≤ p.2 ∧ p.2 ≤ b) : ∀ p ∈ con a, -b ≤ p.2 ∧ p.2 ≤ b := fun p hp => by
  obtain ⟨q, hq, rfl⟩ := List.mem_map.mp hp
  have := h q (List.mem_reverse.mp hq)
  exact ⟨by show -b ≤ -q.2; omega, by show -q.2 ≤ b; omega⟩
def widP (n : Str) (p : Pc) : Int := if p.1 = n then 2 * (if p.2 < 0 then -p.2 else p.2) else 1
def wid (n : Str) (c : List Pc) : Int := (c.map (widP n)).sum
inductive Mv where
  | turn (a : Nat) | change (a b : Nat) | slide (a b : Nat) (k : Int)
def dMv : Mv → D
  | .turn a => .tup [.str "turn", .str (tx [a])]
  | .change a b => .tup [.str "change", .str (tx [a]), .str (tx [b])]
  | .slide a b k => .tup [.str "slide", .str (tx [a]), .str (tx [b]), .int k]
def slP (a b : Nat) (k : Int) (p : Pc) : List Pc := if p.1 = tx [a] then (if p.2 < 0 then (List.replicate (-p.2).toNat [(tx [b], -k), (tx [a], -1)]).flatten else (List.replicate p.2.toNat [(tx [a], 1), (tx [b], k)]).flatten) else [p]
/-- what a move makes of a cord, nothing put together -/
def mvs : Mv → List Pc → List Pc
  | .turn a, c => c.map fun p => if p.1 = tx [a] then (p.1, -p.2) else p
  | .change a b, c => c.map fun p => (if p.1 = tx [a] then tx [b] else if p.1 = tx [b] then tx [a] else p.1, p.2)
  | .slide a b k, c => (c.map (slP a b k)).flatten
def MvOk : Mv → Prop
  | .turn a => 97 ≤ a ∧ a ≤ 122
  | .change a b => 97 ≤ a ∧ a ≤ 122 ∧ 97 ≤ b ∧ b ≤ 122 ∧ a ≠ b
  | .slide a b k => 97 ≤ a ∧ a ≤ 122 ∧ 97 ≤ b ∧ b ≤ 122 ∧ a ≠ b ∧ -2 ≤ k ∧ k ≤ 2
theorem nail_mk {a : Nat} (h : 97 ≤ a) (g : a ≤ 122) : isNail (tx [a]) := ⟨a, rfl, h, g⟩
theorem mvs_nl {m : Mv} {c : List Pc} (h : MvOk m) (g : Nl c) : Nl (mvs m c) := fun p hp => by
  cases m with
  | turn a =>
    obtain ⟨q, hq, rfl⟩ := List.mem_map.mp hp
    split <;> exact g q hq
  | change a b =>
    obtain ⟨q, hq, rfl⟩ := List.mem_map.mp hp
    simp only
    split
    · exact nail_mk h.2.2.1 h.2.2.2.1
    · split
      · exact nail_mk h.1 h.2.1
      · exact g q hq
  | slide a b k =>
    obtain ⟨l, hl, hp⟩ := List.mem_flatten.mp hp
    obtain ⟨q, hq, rfl⟩ := List.mem_map.mp hl
    unfold slP at hp
    split at hp
    · split at hp
      · have := rep_mem hp
        simp only [List.mem_cons, List.not_mem_nil, or_false] at this
        rcases this with rfl | rfl
        · exact nail_mk h.2.2.1 h.2.2.2.1
        · exact nail_mk h.1 h.2.1
      · have := rep_mem hp
        simp only [List.mem_cons, List.not_mem_nil, or_false] at this
        rcases this with rfl | rfl
        · exact nail_mk h.1 h.2.1
        · exact nail_mk h.2.2.1 h.2.2.2.1
    · rw [List.mem_singleton] at hp
      rw [hp]
      exact g q hq
theorem slP_len (a b : Nat) (k : Int) (p : Pc) : ((slP a b k p).length : Int) = widP (tx [a]) p := by
  unfold slP widP
  split
  · split
    · rw [rep_len]
      simp only [List.length_cons, List.length_nil]
      omega
    · rw [rep_len]
      simp only [List.length_cons, List.length_nil]
      omega
  · rfl
theorem mvs_len (a b : Nat) (k : Int) : ∀ c : List Pc, ((mvs (.slide a b k) c).length : Int) = wid (tx [a]) c
  | [] => rfl
  | p :: c => by
    have ih := mvs_len a b k c
    have e := slP_len a b k p
    simp only [mvs, wid, List.map_cons, List.flatten_cons, List.length_append, List.sum_cons] at ih ⊢
    omega
theorem widP_nn (n : Str) (p : Pc) : 0 ≤ widP n p := by
  unfold widP
  split
  · split <;> omega
  · omega
theorem slP_zero (a b : Nat) (p : Pc) (w : List Pc) (hw : Red w) : act (slP a b 0 p) w = act [p] w := by
  have one : ∀ (m : Nat) (w : List Pc), Red w → act (List.replicate m [((tx [a] : Str), (1 : Int)), (tx [b], 0)]).flatten w = ps (tx [a], (m : Int)) w := fun m => by
    induction m with
    | zero => intro w _; show w = _; rw [show ((0 : Nat) : Int) = 0 by rfl, ps_zero]
    | succ m ih =>
      intro w hw
      rw [List.replicate_succ, List.flatten_cons, act_app, ih w hw]
      show ps (tx [a], 1) (ps (tx [b], 0) (ps (tx [a], (m : Int)) w)) = _
      rw [ps_zero, ps_ps hw]
      congr 2
      omega
  have two : ∀ (m : Nat) (w : List Pc), Red w → act (List.replicate m [((tx [b] : Str), (-0 : Int)), (tx [a], -1)]).flatten w = ps (tx [a], -(m : Int)) w := fun m => by
    induction m with
    | zero => intro w _; show w = _; rw [show -((0 : Nat) : Int) = 0 by rfl, ps_zero]
    | succ m ih =>
      intro w hw
      rw [List.replicate_succ, List.flatten_cons, act_app, ih w hw]
      show ps (tx [b], -0) (ps (tx [a], -1) (ps (tx [a], -(m : Int)) w)) = _
      rw [show (-0 : Int) = 0 by rfl, ps_zero, ps_ps hw]
      congr 2
      omega
  unfold slP
  split
  · rename_i h
    have ep : p = (tx [a], p.2) := Prod.ext h rfl
    split
    · rw [two _ _ hw]
      show _ = ps p w
      rw [ep]
      congr 2
      simp only
      omega
    · rw [one _ _ hw]
      show _ = ps p w
      rw [ep]
      congr 2
      simp only
      omega
  · rfl
theorem slide_zero (a b : Nat) : ∀ c : List Pc, Eqv (mvs (.slide a b 0) c) c
  | [] => .refl _
  | p :: c => by
    have ih := slide_zero a b c
    have : Eqv (slP a b 0 p ++ mvs (.slide a b 0) c) ([p] ++ c) := Eqv.app (fun w hw => slP_zero a b p w hw) ih
    exact this
def mvN (r : List Pc) (m : Mv) : List Pc := nf (mvs m r)
/-- the moves can be done one after the other -/
def Fit : List Pc → List Mv → Prop
  | _, [] => True
  | r, m :: ms => (MvOk m ∧ r.length ≤ 100000 ∧ Nl r ∧ Tb r ∧ ∀ a b k, m = .slide a b k → wid (tx [a]) r ≤ 4000) ∧ Fit (mvN r m) ms
theorem Fit.ok : ∀ {ms : List Mv} {r : List Pc}, Fit r ms → ∀ m ∈ ms, MvOk m
  | [], _, _ => fun _ h => by cases h
  | m :: ms, r, h => fun m' h' => by
    rcases List.mem_cons.mp h' with z | z
    · rw [z]; exact h.1.1
    · exact Fit.ok h.2 m' z
theorem Fit.snoc : ∀ {ms : List Mv} {r : List Pc} {m : Mv}, Fit r ms → Fit (ms.foldl mvN r) [m] → Fit r (ms ++ [m])
  | [], _, _, _, g => g
  | _ :: _, _, _, h, g => ⟨h.1, Fit.snoc h.2 g⟩
theorem filter_len {l : List Nat} {y : Nat} (hy : y ∈ l) (hn : l.Nodup) : (l.filter fun z => decide (z ≠ y)).length = l.length - 1 := by
  induction l with
  | nil => cases hy
  | cons z l ih =>
    rw [List.nodup_cons] at hn
    rw [List.filter_cons]
    by_cases h : z = y
    · subst h
      have : l.filter (fun w => decide (w ≠ z)) = l := List.filter_eq_self.mpr fun w hw => decide_eq_true fun e => hn.1 (e ▸ hw)
      rw [if_neg (by simp), this]
      simp
    · rw [if_pos (by simpa using h), List.length_cons, List.length_cons, ih ((List.mem_cons.mp hy).resolve_left fun e => h e.symm) hn.2]
      have : l ≠ [] := fun e => by
        rw [e] at hy
        simp at hy
        exact h hy.symm
      have := List.length_pos_iff.mpr this
      omega
/-! how great the turns grow -/
def tot (c : List Pc) : Nat := (c.map fun p => p.2.natAbs).sum
theorem tot_cons (p : Pc) (c : List Pc) : tot (p :: c) = p.2.natAbs + tot c := by simp [tot]
theorem tot_app (a b : List Pc) : tot (a ++ b) = tot a + tot b := by simp [tot]
theorem tot_mem : ∀ {c : List Pc} {p : Pc}, p ∈ c → p.2.natAbs ≤ tot c
  | q :: c, p, h => by
    rw [tot_cons]
    rcases List.mem_cons.mp h with e | e
    · rw [e]; omega
    · have := tot_mem e; omega
theorem tot_ps (p : Pc) (w : List Pc) : tot (ps p w) ≤ p.2.natAbs + tot w := by
  unfold ps
  split
  · omega
  · cases w with
    | nil => simp [tot]
    | cons l r =>
      simp only
      split
      · split
        · rw [tot_cons]; omega
        · rw [tot_cons, tot_cons]
          simp only
          omega
      · rw [tot_cons]; omega
theorem tot_nf : ∀ c : List Pc, tot (nf c) ≤ tot c
  | [] => Nat.le_refl _
  | p :: c => by
    have h := tot_nf c
    have g := tot_ps p (nf c)
    rw [tot_cons]
    show tot (ps p (nf c)) ≤ _
    omega
theorem tot_rep (m : Nat) (p q : Pc) : tot (List.replicate m [p, q]).flatten = m * (p.2.natAbs + q.2.natAbs) := by
  induction m with
  | zero => simp [tot]
  | succ m ih =>
    rw [List.replicate_succ, List.flatten_cons, tot_app, ih, Nat.succ_mul]
    simp [tot]
    omega
theorem tot_mvs {m : Mv} (h : MvOk m) : ∀ c : List Pc, tot (mvs m c) ≤ 3 * tot c
  | [] => by cases m <;> simp [mvs, tot]
  | p :: c => by
    have ih := tot_mvs h c
    rw [tot_cons]
    cases m with
    | turn a =>
      have : tot (mvs (.turn a) (p :: c)) = (if p.1 = tx [a] then (p.1, -p.2) else p).2.natAbs + tot (mvs (.turn a) c) := by simp [mvs, tot]
      rw [this]
      split
      · simp only [Int.natAbs_neg]; omega
      · omega
    | change a b =>
      have : tot (mvs (.change a b) (p :: c)) = p.2.natAbs + tot (mvs (.change a b) c) := by simp [mvs, tot]
      omega
    | slide a b k =>
      have : tot (mvs (.slide a b k) (p :: c)) = tot (slP a b k p) + tot (mvs (.slide a b k) c) := by
        rw [← tot_app]; rfl
      have hk := h.2.2.2.2.2
      have key : tot (slP a b k p) ≤ 3 * p.2.natAbs := by
        unfold slP
        split
        · split
          · rw [tot_rep]
            simp only
            have e1 : (-k).natAbs + (-1 : Int).natAbs ≤ 3 := by omega
            have e2 : (-p.2).toNat ≤ p.2.natAbs := by omega
            calc _ ≤ p.2.natAbs * 3 := Nat.mul_le_mul e2 e1
              _ = _ := by omega
          · rw [tot_rep]
            simp only
            have e1 : (1 : Int).natAbs + k.natAbs ≤ 3 := by omega
            have e2 : p.2.toNat ≤ p.2.natAbs := by omega
            calc _ ≤ p.2.natAbs * 3 := Nat.mul_le_mul e2 e1
              _ = _ := by omega
        · simp [tot]; omega
      omega
theorem tot_mvN {m : Mv} (h : MvOk m) (c : List Pc) : tot (mvN c m) ≤ 3 * tot c := Nat.le_trans (tot_nf _) (tot_mvs h c)
theorem tot_tb {c : List Pc} (h : tot c ≤ 2 ^ 120) : Tb c := fun p hp => Nat.le_trans (tot_mem hp) h
theorem tot_of {b : Nat} : ∀ {c : List Pc}, (∀ p ∈ c, p.2.natAbs ≤ b) → tot c ≤ c.length * b
  | [], _ => by simp [tot]
  | p :: c, h => by
    have := tot_of (c := c) fun q hq => h q (by simp [hq])
    have := h p (by simp)
    rw [tot_cons, List.length_cons, Nat.succ_mul]
    omega
theorem mvs_len0 {m : Mv} (hm : ∀ a b k, m ≠ .slide a b k) (c : List Pc) : (mvs m c).length = c.length := by
  cases m with
  | turn a => simp [mvs]
  | change a b => simp [mvs]
  | slide a b k => exact absurd rfl (hm a b k)
theorem On.nl {l : List Nat} {c : List Pc} (h : On l c) (g : Lt l) : Nl c := fun p hp => by
  obtain ⟨y, hy, e⟩ := h p hp
  exact ⟨y, e, g y hy⟩
/-! a move keeps what cords do -/
theorem slW_succ {a b : Nat} {k t : Int} {w : List Pc} (hw : Red w) : act (slP a b k (tx [a], t + 1)) w = act [(tx [a], 1), (tx [b], k)] (act (slP a b k (tx [a], t)) w) := by
  have back : ∀ u, Red u → act [((tx [a] : Str), (1 : Int)), (tx [b], k)] (act [(tx [b], -k), (tx [a], -1)] u) = u := fun u hu => by
    rw [← act_app]
    exact eqv_con [(tx [a], 1), (tx [b], k)] u hu
  unfold slP
  simp only [if_true]
  by_cases h : t < 0
  · have e : (-t).toNat = (-(t + 1)).toNat + 1 := by omega
    rw [if_pos h, e, List.replicate_succ, List.flatten_cons, act_app, back _ (act_red hw)]
    split
    · rfl
    · have e1 : (t + 1).toNat = 0 := by omega
      have e2 : (-(t + 1)).toNat = 0 := by omega
      rw [e1, e2]
      rfl
  · rw [if_neg h, if_neg (by omega), show (t + 1).toNat = t.toNat + 1 by omega, List.replicate_succ, List.flatten_cons, act_app]
theorem slW_add (a b : Nat) (k s t : Int) : Eqv (slP a b k (tx [a], s + t)) (slP a b k (tx [a], s) ++ slP a b k (tx [a], t)) := by
  intro w hw
  rw [act_app]
  refine up_down (p := fun s => act (slP a b k (tx [a], s + t)) w = act (slP a b k (tx [a], s)) (act (slP a b k (tx [a], t)) w)) ?_ (fun s => ?_) s
  · rw [Int.zero_add]
    unfold slP
    simp
    rfl
  · rw [show s + 1 + t = s + t + 1 by omega, slW_succ hw, slW_succ (act_red hw)]
    refine ⟨fun h => by rw [h], fun h => ?_⟩
    have bk : ∀ u, Red u → act (con [((tx [a] : Str), (1 : Int)), (tx [b], k)]) (act [(tx [a], 1), (tx [b], k)] u) = u := fun u hu => by
      rw [← act_app]
      exact eqv_con' [(tx [a], 1), (tx [b], k)] u hu
    have g := congrArg (act (con [((tx [a] : Str), (1 : Int)), (tx [b], k)])) h
    rwa [bk _ (act_red hw), bk _ (act_red (act_red hw))] at g
theorem mvs_app (m : Mv) (a b : List Pc) : mvs m (a ++ b) = mvs m a ++ mvs m b := by
  cases m <;> simp [mvs]
theorem mvs_one (m : Mv) (p : Pc) (c : List Pc) : mvs m (p :: c) = mvs m [p] ++ mvs m c := mvs_app m [p] c
theorem mvs_part (m : Mv) (n : Str) (s t : Int) : Eqv (mvs m [(n, s + t)]) (mvs m [(n, s)] ++ mvs m [(n, t)]) := by
  cases m with
  | turn a =>
    simp only [mvs, List.map_cons, List.map_nil]
    split
    · exact eqv_part (by omega)
    · exact eqv_part rfl
  | change a b =>
    simp only [mvs, List.map_cons, List.map_nil]
    exact eqv_part rfl
  | slide a b k =>
    simp only [mvs, List.map_cons, List.map_nil, List.flatten_cons, List.flatten_nil, List.append_nil]
    by_cases h : n = tx [a]
    · subst h
      exact slW_add a b k s t
    · unfold slP
      simp only [if_neg h]
      exact eqv_part rfl
theorem mvs_zero (m : Mv) (n : Str) : Eqv (mvs m [(n, 0)]) [] := by
  cases m with
  | turn a =>
    simp only [mvs, List.map_cons, List.map_nil]
    split
    · exact eqv_zero.symm
    · exact eqv_zero.symm
  | change a b =>
    simp only [mvs, List.map_cons, List.map_nil]
    exact eqv_zero.symm
  | slide a b k =>
    simp only [mvs, List.map_cons, List.map_nil, List.flatten_cons, List.flatten_nil, List.append_nil]
    unfold slP
    split
    · simp only [Int.lt_irrefl, if_false]
      exact .refl _
    · exact eqv_zero.symm
theorem mvs_ps (m : Mv) (p : Pc) (w : List Pc) : Eqv (mvs m (ps p w)) (mvs m [p] ++ mvs m w) := by
  have hp : p = (p.1, p.2) := rfl
  unfold ps
  split
  · rename_i h
    rw [hp, h]
    exact ((mvs_zero m p.1).app (Eqv.refl (mvs m w))).symm
  · cases w with
    | nil =>
      have : mvs m [] = [] := by cases m <;> rfl
      simp only [this, List.append_nil]
      exact .refl _
    | cons l r =>
      simp only
      split
      · rename_i e
        have el : l = (p.1, l.2) := Prod.ext e rfl
        have key : Eqv (mvs m [(p.1, p.2 + l.2)] ++ mvs m r) (mvs m [p] ++ mvs m (l :: r)) := by
          rw [mvs_one m l r, ← List.append_assoc]
          refine Eqv.app ?_ (.refl _)
          rw [el]
          exact mvs_part m p.1 p.2 l.2
        split
        · rename_i hs
          rw [hs] at key
          exact ((mvs_zero m p.1).symm.app (Eqv.refl (mvs m r))).trans key
        · rw [mvs_one]
          exact key
      · rw [mvs_one m p (l :: r)]
        exact .refl _
theorem mvs_nf (m : Mv) : ∀ c : List Pc, Eqv (mvs m c) (mvs m (nf c))
  | [] => by cases m <;> exact .refl _
  | p :: c => by
    have ih := mvs_nf m c
    have h := mvs_ps m p (nf c)
    rw [mvs_one]
    exact ((Eqv.refl (mvs m [p])).app ih).trans h.symm
theorem mvs_eqv (m : Mv) {c d : List Pc} (h : Eqv c d) : Eqv (mvs m c) (mvs m d) := by
  have := mvs_nf m d
  rw [← h.nf] at this
  exact (mvs_nf m c).trans this.symm
theorem mvN_nf (m : Mv) (c : List Pc) : mvN (nf c) m = nf (mvs m c) := (mvs_nf m c).nf.symm
theorem mvs_con (m : Mv) (c : List Pc) : Eqv (mvs m (con c)) (con (mvs m c)) := by
  have h1 : Eqv (mvs m (con c) ++ mvs m c) [] := by
    rw [← mvs_app]
    have := mvs_eqv m (eqv_con' c)
    have e : mvs m [] = [] := by cases m <;> rfl
    rwa [e] at this
  have h2 : Eqv (mvs m (con c)) (mvs m (con c) ++ (mvs m c ++ con (mvs m c))) := by
    have := (Eqv.refl (mvs m (con c))).app (eqv_con (mvs m c)).symm
    simpa using this
  rw [← List.append_assoc] at h2
  have h3 := h1.app (Eqv.refl (con (mvs m c)))
  exact h2.trans h3
/-- the move that undoes a move -/
def inv : Mv → Mv
  | .slide a b k => .slide a b (-k)
  | m => m
theorem inv_ok {m : Mv} (h : MvOk m) : MvOk (inv m) := by
  cases m with
  | slide a b k => exact ⟨h.1, h.2.1, h.2.2.1, h.2.2.2.1, h.2.2.2.2.1, by have := h.2.2.2.2.2; omega, by have := h.2.2.2.2.2; omega⟩
  | _ => exact h
theorem inv_inv (m : Mv) : inv (inv m) = m := by
  cases m with
  | slide a b k => show Mv.slide a b (- -k) = _; rw [Int.neg_neg]
  | _ => rfl
theorem mvs_rep (m : Mv) (n : Nat) (w : List Pc) : mvs m (List.replicate n w).flatten = (List.replicate n (mvs m w)).flatten := by
  induction n with
  | zero => cases m <;> rfl
  | succ n ih => rw [List.replicate_succ, List.replicate_succ, List.flatten_cons, List.flatten_cons, mvs_app, ih]
theorem rep_eqv {u v : List Pc} (h : Eqv u v) : ∀ n, Eqv (List.replicate n u).flatten (List.replicate n v).flatten
  | 0 => .refl _
  | n + 1 => by
    rw [List.replicate_succ, List.replicate_succ, List.flatten_cons, List.flatten_cons]
    exact h.app (rep_eqv h n)
theorem rep_pc (n : Str) (j : Int) : ∀ m : Nat, Eqv (List.replicate m [((n, j) : Pc)]).flatten [(n, m * j)]
  | 0 => by
    show Eqv [] _
    rw [show ((0 : Nat) : Int) * j = 0 by simp]
    exact eqv_zero
  | m + 1 => by
    rw [List.replicate_succ, List.flatten_cons]
    refine ((Eqv.refl [(n, j)]).app (rep_pc n j m)).trans ?_
    exact (eqv_part (by rw [show ((m + 1 : Nat) : Int) = (m : Int) + 1 by omega, Int.add_mul]; omega)).symm
theorem tx_ne {a b : Nat} (h : a ≠ b) : ¬ tx [a] = tx [b] := fun e => h (by simpa [tx_inj] using e)
theorem inv_one {m : Mv} (h : MvOk m) (p : Pc) : Eqv (mvs (inv m) (mvs m [p])) [p] := by
  cases m with
  | turn a =>
    simp only [inv, mvs, List.map_cons, List.map_nil]
    by_cases e : p.1 = tx [a]
    · simp only [if_pos e, Int.neg_neg]
      exact .refl _
    · simp only [if_neg e]
      exact .refl _
  | change a b =>
    have hn := tx_ne h.2.2.2.2
    simp only [inv, mvs, List.map_cons, List.map_nil]
    by_cases e : p.1 = tx [a]
    · simp only [if_pos e, if_neg (fun z => hn (Eq.symm z)), if_true]
      rw [← e]
      exact .refl _
    · by_cases e' : p.1 = tx [b]
      · simp only [if_neg e, if_pos e', if_true]
        rw [← e']
        exact .refl _
      · simp only [if_neg e, if_neg e']
        exact .refl _
  | slide a b k =>
    have hn := tx_ne h.2.2.2.2.1
    have hn' := tx_ne (Ne.symm h.2.2.2.2.1)
    by_cases e : p.1 = tx [a]
    · have one : Eqv (mvs (.slide a b (-k)) [(tx [a], 1), (tx [b], k)]) [(tx [a], 1)] := by
        have e1 : mvs (.slide a b (-k)) [(tx [a], 1), (tx [b], k)] = [(tx [a], 1), (tx [b], -k), (tx [b], k)] := by
          simp [mvs, slP, hn']
        rw [e1]
        have := (Eqv.refl [((tx [a] : Str), (1 : Int))]).app ((eqv_part (n := tx [b]) (a := -k) (b := k) (t := 0) (by omega)).symm.trans eqv_zero.symm)
        simpa using this
      have two : Eqv (mvs (.slide a b (-k)) [(tx [b], -k), (tx [a], -1)]) [(tx [a], -1)] := by
        have e1 : mvs (.slide a b (-k)) [(tx [b], -k), (tx [a], -1)] = [(tx [b], -k), (tx [b], k), (tx [a], -1)] := by
          simp [mvs, slP, hn']
        rw [e1]
        have := ((eqv_part (n := tx [b]) (a := -k) (b := k) (t := 0) (by omega)).symm.trans eqv_zero.symm).app (Eqv.refl [((tx [a] : Str), (-1 : Int))])
        simpa using this
      have ep : p = (tx [a], p.2) := Prod.ext e rfl
      have em : mvs (.slide a b k) [p] = slP a b k p := by simp [mvs]
      rw [em]
      unfold slP
      rw [if_pos e]
      split
      · show Eqv (mvs (.slide a b (-k)) _) _
        rw [mvs_rep]
        refine (rep_eqv two _).trans ((rep_pc _ _ _).trans ?_)
        rw [ep]
        rw [show (((-p.2).toNat : Nat) : Int) * -1 = p.2 by omega]
        exact .refl _
      · show Eqv (mvs (.slide a b (-k)) _) _
        rw [mvs_rep]
        refine (rep_eqv one _).trans ((rep_pc _ _ _).trans ?_)
        rw [ep]
        rw [show ((p.2.toNat : Nat) : Int) * 1 = p.2 by omega]
        exact .refl _
    · have em : ∀ k, mvs (.slide a b k) [p] = [p] := fun k => by simp [mvs, slP, e]
      rw [em]
      show Eqv (mvs (.slide a b (-k)) [p]) [p]
      rw [em]
      exact .refl _
theorem inv_eqv {m : Mv} (h : MvOk m) : ∀ c : List Pc, Eqv (mvs (inv m) (mvs m c)) c
  | [] => by cases m <;> exact .refl _
  | p :: c => by
    rw [mvs_one m p c, mvs_app]
    exact (inv_one h p).app (inv_eqv h c)
theorem inv_mvN {m : Mv} (h : MvOk m) {r : List Pc} (hr : Red r) : mvN (mvN r m) (inv m) = r := by
  show nf (mvs (inv m) (nf (mvs m r))) = r
  rw [(mvs_eqv (inv m) (eqv_nf (mvs m r)).symm).nf, (inv_eqv h r).nf, red_nf hr]
theorem mvN_red (r : List Pc) (m : Mv) : Red (mvN r m) := nf_red _
theorem fold_red : ∀ (ms : List Mv) {r : List Pc}, Red r → Red (ms.foldl mvN r)
  | [], _, h => h
  | m :: ms, r, _ => fold_red ms (mvN_red r m)
/-- moved there and back -/
theorem fold_back : ∀ (ms : List Mv) {r : List Pc}, (∀ m ∈ ms, MvOk m) → Red r → (ms.reverse.map inv).foldl mvN (ms.foldl mvN r) = r
  | [], r, _, _ => rfl
  | m :: ms, r, h, hr => by
    rw [List.reverse_cons, List.map_append, List.foldl_append, List.foldl_cons, fold_back ms (fun m' h' => h m' (by simp [h'])) (mvN_red r m)]
    exact inv_mvN (h m (by simp)) hr
theorem foldN_app : ∀ (ms : List Mv) (u v : List Pc), ms.foldl mvN (nf (u ++ v)) = nf (ms.foldl mvN (nf u) ++ ms.foldl mvN (nf v))
  | [], u, v => nf_app2 u v
  | m :: ms, u, v => by
    simp only [List.foldl_cons, mvN_nf, mvs_app]
    exact foldN_app ms _ _
theorem foldN_con : ∀ (ms : List Mv) (u : List Pc), ms.foldl mvN (nf (con u)) = con (ms.foldl mvN (nf u))
  | [], u => nf_con_nf u
  | m :: ms, u => by
    simp only [List.foldl_cons, mvN_nf]
    rw [(mvs_con m u).nf]
    exact foldN_con ms _
theorem foldN_inj {ms : List Mv} (h : ∀ m ∈ ms, MvOk m) {u v : List Pc} (e : ms.foldl mvN (nf u) = ms.foldl mvN (nf v)) : nf u = nf v := by
  have h1 := fold_back ms h (nf_red u)
  have h2 := fold_back ms h (nf_red v)
  rw [← h1, e, h2]
end NL

/-! The order of cords; cords led by others: rings. -/
namespace NL
open PySem PySem.Spec L2
open PyProof.Rows hiding St
theorem Br.yes {A B : Prop} {s : Tg A} {t : Tg B} (h : A) : Br true A B s t := h
theorem Br.no {A B : Prop} {s : Tg A} {t : Tg B} (h : B) : Br false A B s t := h
theorem rngD_nat {n : Nat} : (rng 0 1 n).map D.int = (List.range n).map fun i : Nat => D.int i := by simp [rng, Function.comp_def]
/-! ### the order -/
abbrev plt (a b : List Pc) : Bool := PySem.W.DatumOrd.lt (α := List (Str × Int)) a b
theorem ord_tri {α : Type} [DecidableEq α] [PySem.W.DatumOrd α] {a b : α} (h : PySem.W.DatumOrd.lt a b = false) (g : PySem.W.DatumOrd.lt b a = false) : a = b := by
  rw [← PySem.W.DatumOrd.lt_eq] at h g
  have e := PyProof.Rows.lex_total (O := PyProof.Rows.itemOrd) _ _ h g
  apply Decidable.byContradiction
  intro n
  have d : PyData.eqv (PySem.W.Datum.toD a) (PySem.W.Datum.toD b) = false := by rw [PySem.W.Datum.eqv]; simp [n]
  have z := (PySem.W.toks_eqv _ _ (PySem.W.DatumOrd.alike a b)).2 d [] [.inl 0]
  rw [e] at z
  have z1 := PySem.W.lex_pre (PySem.W.keyToks (PySem.W.Datum.toD b)) [] [.inl 0]
  rw [z1, PyProof.Rows.lex_irrefl] at z
  exact absurd z (by decide)
theorem ord_irr {α : Type} [DecidableEq α] [PySem.W.DatumOrd α] (a : α) : PySem.W.DatumOrd.lt a a = false := by
  rw [← PySem.W.DatumOrd.lt_eq]
  exact PySem.W.dataLt_self _
theorem ord_trans {α : Type} [DecidableEq α] [PySem.W.DatumOrd α] {a b c : α} (h : PySem.W.DatumOrd.lt a b = true) (g : PySem.W.DatumOrd.lt b c = true) : PySem.W.DatumOrd.lt a c = true := by
  rw [← PySem.W.DatumOrd.lt_eq] at h g ⊢
  exact PyProof.Rows.lex_trans _ _ _ h g
/-- what is not below b is not below what is below b -/
theorem ord_low {α : Type} [DecidableEq α] [PySem.W.DatumOrd α] {x a b : α} (h : PySem.W.DatumOrd.lt a b = true) (g : PySem.W.DatumOrd.lt x b = false) : PySem.W.DatumOrd.lt x a = false := by
  cases e : PySem.W.DatumOrd.lt x a with
  | false => rfl
  | true => rw [ord_trans e h] at g; exact g
theorem py_dC (c : List Pc) : py (dC c) = PySem.W.Datum.toD (α := List (Str × Int)) c := by
  show PyData.list _ = PyData.list _
  congr 1
  induction c with
  | nil => rfl
  | cons p c ih =>
    show _ :: _ = _ :: _
    congr 1
theorem dlt_dC (a b : List Pc) : dlt (dC a) (dC b) = plt a b := by
  unfold dlt
  rw [py_dC, py_dC]
  exact PySem.W.DatumOrd.lt_eq a b
theorem lik_dC (a b : List Pc) : lik (dC a) (dC b) := by
  unfold lik
  rw [py_dC, py_dC]
  exact PySem.W.DatumOrd.alike a b
/-! ### begun at another piece -/
def Rot (a b : List Pc) : Prop := ∃ x y, a = x ++ y ∧ b = y ++ x
theorem Rot.refl (a : List Pc) : Rot a a := ⟨[], a, rfl, by simp⟩
theorem Rot.symm {a b : List Pc} (h : Rot a b) : Rot b a := by
  obtain ⟨x, y, e, f⟩ := h
  exact ⟨y, x, f, e⟩
theorem Rot.trans {a b c : List Pc} (h : Rot a b) (g : Rot b c) : Rot a c := by
  obtain ⟨x, y, rfl, rfl⟩ := h
  obtain ⟨u, v, e, rfl⟩ := g
  rcases List.append_eq_append_iff.mp e with ⟨w, h1, h2⟩ | ⟨w, h1, h2⟩
  · subst h1 h2
    exact ⟨w, v ++ y, by simp, by simp⟩
  · subst h1 h2
    exact ⟨x ++ u, w, by simp, by simp⟩
theorem Rot.len {a b : List Pc} (h : Rot a b) : b.length = a.length := by
  obtain ⟨x, y, rfl, rfl⟩ := h
  simp [Nat.add_comm]
theorem Rot.mem {a b : List Pc} (h : Rot a b) {p : Pc} (hp : p ∈ b) : p ∈ a := by
  obtain ⟨x, y, rfl, rfl⟩ := h
  simp at hp ⊢
  exact hp.symm
theorem rot_at (a : List Pc) (k : Nat) : Rot a (a.drop k ++ a.take k) := ⟨a.take k, a.drop k, by simp, rfl⟩
theorem Rot.cut {a b : List Pc} (h : Rot a b) : b = a ∨ ∃ k, k < a.length ∧ b = a.drop k ++ a.take k := by
  obtain ⟨x, y, rfl, rfl⟩ := h
  cases y with
  | nil => exact .inl (by simp)
  | cons p y => exact .inr ⟨x.length, by simp, by simp⟩
/-! ### runs with unlike ends -/
theorem red_join : ∀ {a b : List Pc}, Red a → Red b → (∀ p q, a.getLast? = some p → b.head? = some q → p.1 ≠ q.1) → Red (a ++ b)
  | [], _, _, h, _ => h
  | [p], b, h, g, n => Red.mk h (fun q e => n p q rfl e) g
  | p :: q :: r, b, h, g, n => ⟨h.1, h.2.1, red_join (a := q :: r) h.2.2 g fun s t e f => n s t (by rw [List.getLast?_cons_cons]; exact e) f⟩
theorem red_part1 : ∀ {a b : List Pc}, Red (a ++ b) → Red a
  | [], _, _ => trivial
  | [p], b, h => by
    cases b with
    | nil => exact h
    | cons q r => exact h.1
  | p :: q :: a, b, h => ⟨h.1, h.2.1, red_part1 (a := q :: a) h.2.2⟩
theorem red_part2 : ∀ {a b : List Pc}, Red (a ++ b) → Red b
  | [], _, h => h
  | p :: a, b, h => red_part2 (a := a) h.tail
theorem red_meet : ∀ {a b : List Pc} {p q : Pc}, Red (a ++ b) → a.getLast? = some p → b.head? = some q → p.1 ≠ q.1
  | [], _, _, _, _, e, _ => by simp at e
  | [s], b, p, q, h, e, f => by
    cases b with
    | nil => simp at f
    | cons t b =>
      simp at e f
      subst e f
      exact h.2.1
  | s :: t :: a, b, p, q, h, e, f => red_meet (a := t :: a) h.2.2 (by rw [List.getLast?_cons_cons] at e; exact e) f
theorem red_end {a : List Pc} {g g' : Pc} (h : Red (a ++ [g])) (e : g'.1 = g.1) (n : g'.2 ≠ 0) : Red (a ++ [g']) :=
  red_join (red_part1 h) n fun p q h1 h2 => by
    simp at h2
    subst h2
    rw [e]
    exact red_meet h h1 rfl
def Cyc (i : List Pc) : Prop := Red i ∧ (2 ≤ i.length → ∀ p q, i.head? = some p → i.getLast? = some q → p.1 ≠ q.1)
theorem Cyc.rt {a b : List Pc} (c : Cyc a) (h : Rot a b) : Cyc b := by
  obtain ⟨x, y, rfl, rfl⟩ := h
  rcases x with _ | ⟨p, x⟩
  · simpa using c
  rcases y with _ | ⟨q, y⟩
  · simpa using c
  refine ⟨red_join (red_part2 c.1) (red_part1 c.1) fun s t e f => ?_, fun _ s t e f => ?_⟩
  · refine (c.2 (by simp; omega) t s ?_ ?_).symm
    · simpa using f
    · rw [List.getLast?_append, e]; rfl
  · have f' : (p :: x).getLast? = some t := by
      rw [List.getLast?_append] at f
      simpa [List.getLast?_cons] using f
    have e' : (q :: y).head? = some s := by simpa using e
    exact (red_meet c.1 f' e').symm
theorem no_ends {u v m : List Pc} {p q : Pc} (hu : u.head? = some p) (hv : v.head? = some q) (e : p.1 = q.1) : ¬ Cyc (u ++ m ++ con v) := fun c => by
  cases u with
  | nil => simp at hu
  | cons p' u =>
    cases v with
    | nil => simp at hv
    | cons q' v =>
      simp at hu hv
      subst hu hv
      refine c.2 (by simp [con_cons]; omega) p' (q'.1, -q'.2) (by simp) (by rw [con_cons, ← List.append_assoc, List.getLast?_append]; rfl) e
theorem head_app {u : List Pc} {p q : Pc} (e : p.1 = q.1) : ∃ a b : Pc, (u ++ [p]).head? = some a ∧ (u ++ [q]).head? = some b ∧ a.1 = b.1 := by
  cases u with
  | nil => exact ⟨p, q, rfl, rfl, e⟩
  | cons s u => exact ⟨s, s, rfl, rfl, rfl⟩
theorem con_head {u : List Pc} {p : Pc} : (con (u ++ [p])).head? = some (p.1, -p.2) := by simp [con]
theorem conj_rot0 : ∀ (n : Nat) (u i j : List Pc), u.length = n → Red u → Cyc i → Cyc j → nf (u ++ i ++ con u) = j → Rot i j
  | 0, u, i, j, hn, _, hi, _, e => by
    have : u = [] := List.length_eq_zero_iff.mp hn
    subst this
    have e' : nf i = j := by simpa [con] using e
    rw [red_nf hi.1] at e'
    rw [e']
    exact .refl _
  | n + 1, u, i, j, hn, hu, hi, hj, e => by
    rcases List.eq_nil_or_concat u with z | ⟨v, p, z⟩
    · rw [z] at hn; simp at hn
    rw [List.concat_eq_append] at z
    subst z
    have hv : v.length = n := by simpa using hn
    have rv : Red v := red_part1 hu
    have p0 : p.2 ≠ 0 := red_part2 hu
    have ih := fun i' h1 h2 => conj_rot0 n v i' j hv rv h1 hj h2
    have sp : v ++ [p] ++ i ++ con (v ++ [p]) = v ++ ([p] ++ i ++ [(p.1, -p.2)]) ++ con v := by rw [con_app]; simp [con]
    have whole : Red (v ++ [p] ++ i ++ con (v ++ [p])) → i ≠ [] → False := fun r _ => by
      rw [red_nf r] at e
      obtain ⟨a, b, h1, h2, h3⟩ := head_app (u := v) (p := p) (q := p) rfl
      rw [← e] at hj
      exact no_ends h1 h2 h3 hj
    rcases i with _ | ⟨a, i⟩
    · have : nf (v ++ [p] ++ con (v ++ [p])) = j := by simpa using e
      rw [nf_con] at this
      rw [← this]
      exact .refl _
    rcases List.eq_nil_or_concat i with z | ⟨m, b, z⟩
    · subst z
      by_cases ha : a.1 = p.1
      · refine ih [a] hi ?_
        rw [sp] at e
        refine Eq.trans (nf_mid v (con v) ?_) e
        intro w r
        obtain ⟨n1, t1⟩ := p
        obtain ⟨n2, t2⟩ := a
        simp only at ha
        subst ha
        simp only [List.cons_append, List.nil_append, act_cons, act_nil]
        rw [ps_ps r, ps_ps r, show t1 + (t2 + -t1) = t2 by omega]
      · refine (whole ?_ (by simp)).elim
        refine red_join (red_join hu hi.1 fun s t h1 h2 => ?_) (con_red hu) fun s t h1 h2 => ?_
        · simp at h1 h2
          subst h1 h2
          exact fun z => ha z.symm
        · rw [con_head] at h2
          simp at h1 h2
          subst h1 h2
          exact ha
    · rw [List.concat_eq_append] at z
      subst z
      have hab : a.1 ≠ b.1 := hi.2 (by simp) a b rfl (by rw [← List.cons_append, List.getLast?_append]; rfl)
      by_cases ha : a.1 = p.1
      · by_cases hs : p.2 + a.2 = 0
        · have ea : a = (p.1, -p.2) := by
            obtain ⟨n2, t2⟩ := a
            simp at ha hs ⊢
            exact ⟨ha, by omega⟩
          have rt : Rot (a :: (m ++ [b])) (m ++ [b] ++ [a]) := ⟨[a], m ++ [b], rfl, rfl⟩
          refine rt.trans (ih _ (hi.rt rt) ?_)
          rw [sp] at e
          refine Eq.trans (nf_mid v (con v) ?_) e
          rw [ea]
          have : Eqv ([p] ++ [(p.1, -p.2)]) [] := eqv_one p
          have := (this.app (Eqv.refl (m ++ [b] ++ [(p.1, -p.2)]))).symm
          simpa using this
        · exfalso
          have w : Red ((v ++ [(p.1, p.2 + a.2)]) ++ (m ++ [b]) ++ con (v ++ [p])) := by
            refine red_join (red_join (red_end hu rfl hs) hi.1.tail fun s t h1 h2 => ?_) (con_red hu) fun s t h1 h2 => ?_
            · rw [List.getLast?_append] at h1
              simp only [List.getLast?_singleton, Option.some_or, Option.some.injEq] at h1
              subst h1
              simp only
              rw [← ha]
              exact red_meet (a := [a]) hi.1 rfl h2
            · rw [con_head] at h2
              rw [← List.append_assoc, List.getLast?_append] at h1
              simp only [List.getLast?_singleton, Option.some_or, Option.some.injEq] at h1 h2
              subst h1 h2
              simp only
              rw [← ha]
              exact hab.symm
          have e2 : nf (v ++ [p] ++ (a :: (m ++ [b])) ++ con (v ++ [p])) = nf ((v ++ [(p.1, p.2 + a.2)]) ++ (m ++ [b]) ++ con (v ++ [p])) := by
            have q : Eqv ([p] ++ [a]) [(p.1, p.2 + a.2)] := by
              intro w r
              obtain ⟨n1, t1⟩ := p
              obtain ⟨n2, t2⟩ := a
              simp only at ha
              subst ha
              simp only [List.cons_append, List.nil_append, act_cons, act_nil]
              rw [ps_ps r]
            have := nf_mid v (m ++ [b] ++ con (v ++ [p])) q
            simpa using this
          rw [e2, red_nf w] at e
          obtain ⟨c, d, h1, h2, h3⟩ := head_app (u := v) (p := ((p.1, p.2 + a.2) : Pc)) (q := p) rfl
          rw [← e] at hj
          exact no_ends h1 h2 h3 hj
      · by_cases hb : b.1 = p.1
        · by_cases hs : b.2 - p.2 = 0
          · have eb : b = p := by
              obtain ⟨n2, t2⟩ := b
              obtain ⟨n1, t1⟩ := p
              simp at hb hs ⊢
              exact ⟨hb, by omega⟩
            subst eb
            have rt : Rot (a :: (m ++ [b])) ([b] ++ (a :: m)) := ⟨a :: m, [b], by simp, rfl⟩
            refine rt.trans (ih _ (hi.rt rt) ?_)
            rw [sp] at e
            refine Eq.trans (nf_mid v (con v) ?_) e
            have : Eqv ([b] ++ [(b.1, -b.2)]) [] := eqv_one b
            have := ((Eqv.refl ([b] ++ (a :: m))).app this).symm
            simpa using this
          · exfalso
            have hu2 : Red (v ++ [((p.1, -(b.2 - p.2)) : Pc)]) := red_end hu rfl (by show -(b.2 - p.2) ≠ 0; omega)
            have ra : Red (a :: m) := red_part1 (a := a :: m) (b := [b]) (by simpa using hi.1)
            have w : Red ((v ++ [p]) ++ (a :: m) ++ con (v ++ [((p.1, -(b.2 - p.2)) : Pc)])) := by
              refine red_join (red_join hu ra fun s t h1 h2 => ?_) (con_red hu2) fun s t h1 h2 => ?_
              · simp at h1 h2
                subst h1 h2
                exact fun z => ha z.symm
              · rw [con_head] at h2
                simp only [Option.some.injEq] at h2
                subst h2
                simp only
                rw [← hb]
                refine red_meet (a := a :: m) (b := [b]) (by simpa using hi.1) ?_ rfl
                rw [List.getLast?_append] at h1
                simpa [List.getLast?_cons] using h1
            have e2 : nf (v ++ [p] ++ (a :: (m ++ [b])) ++ con (v ++ [p])) = nf ((v ++ [p]) ++ (a :: m) ++ con (v ++ [((p.1, -(b.2 - p.2)) : Pc)])) := by
              have q : Eqv ([b] ++ [(p.1, -p.2)]) [(p.1, b.2 - p.2)] := by
                intro w r
                obtain ⟨n1, t1⟩ := p
                obtain ⟨n2, t2⟩ := b
                simp only at hb
                subst hb
                simp only [List.cons_append, List.nil_append, act_cons, act_nil]
                rw [ps_ps r, show t2 + -t1 = t2 - t1 by omega]
              have := nf_mid (v ++ [p] ++ (a :: m)) (con v) q
              simpa [con, Int.neg_sub] using this
            rw [e2, red_nf w] at e
            obtain ⟨c, d, h1, h2, h3⟩ := head_app (u := v) (p := p) (q := ((p.1, -(b.2 - p.2)) : Pc)) rfl
            rw [← e] at hj
            exact no_ends h1 h2 h3 hj
        · refine (whole ?_ (by simp)).elim
          refine red_join (red_join hu hi.1 fun s t h1 h2 => ?_) (con_red hu) fun s t h1 h2 => ?_
          · simp at h1 h2
            subst h1 h2
            exact fun z => ha z.symm
          · rw [con_head] at h2
            have : s = b := by
              rw [List.getLast?_append, ← List.cons_append, List.getLast?_append] at h1
              simpa using h1.symm
            simp only [Option.some.injEq] at h2
            subst this h2
            exact hb
theorem nf_led (u i : List Pc) : nf (nf u ++ i ++ con (nf u)) = nf (u ++ i ++ con u) :=
  ((((eqv_nf u).symm.app (.refl i))).app (by rw [← nf_con_nf]; exact (eqv_nf (con u)).symm)).nf
/-- b is a led about -/
def Cj (a b : List Pc) : Prop := ∃ u, nf (u ++ a ++ con u) = nf b
theorem conj_rot {i j : List Pc} (hi : Cyc i) (hj : Cyc j) (h : Cj i j) : Rot i j := by
  obtain ⟨u, e⟩ := h
  refine conj_rot0 (nf u).length (nf u) i j rfl (nf_red u) hi hj ?_
  rw [← red_nf hj.1, ← e]
  exact ((((eqv_nf u).symm.app (.refl i))).app (by rw [← nf_con_nf]; exact (eqv_nf (con u)).symm)).nf
theorem Cj.of {a b : List Pc} (h : nf a = nf b) : Cj a b := ⟨[], by simpa [con] using h⟩
theorem Cj.trans {a b c : List Pc} (h : Cj a b) (g : Cj b c) : Cj a c := by
  obtain ⟨u, e⟩ := h
  obtain ⟨v, f⟩ := g
  refine ⟨v ++ u, ?_⟩
  rw [← f]
  have := nf_mid v (con v) (nf_eqv e)
  simpa [con_app] using this
theorem Cj.symm {a b : List Pc} (h : Cj a b) : Cj b a := by
  obtain ⟨u, e⟩ := h
  refine ⟨con u, ?_⟩
  have h1 := nf_mid (con u) (con (con u)) (nf_eqv e).symm
  rw [h1, con_con]
  have h2 := (((eqv_con' u).app (Eqv.refl a)).app (eqv_con' u)).nf
  simpa using h2
theorem Rot.cj {a b : List Pc} (h : Rot a b) : Cj a b := by
  obtain ⟨x, y, rfl, rfl⟩ := h
  refine ⟨con x, ?_⟩
  rw [con_con]
  have := ((eqv_con' x).app (Eqv.refl (y ++ x))).nf
  simpa using this
theorem rot_led (o c : List Pc) : Cj c (o ++ c ++ con o) := ⟨o, rfl⟩
/-- the least of all beginnings -/
def Lst (i m : List Pc) : Prop := Rot i m ∧ ∀ x, Rot i x → plt x m = false
theorem Lst.eq {i j m n : List Pc} (h : Lst i m) (g : Lst j n) (r : Rot i j) : m = n :=
  ord_tri (g.2 m (r.symm.trans h.1)) (h.2 n (r.trans g.1))
def IsRing (c m : List Pc) : Prop := ∃ i, Cyc i ∧ Cj i c ∧ Lst i m
theorem IsRing.eq {c d m n : List Pc} (h : IsRing c m) (g : IsRing d n) (r : Cj c d) : m = n := by
  obtain ⟨i, ci, hi, li⟩ := h
  obtain ⟨j, cj, hj, lj⟩ := g
  exact li.eq lj (conj_rot ci cj ((hi.trans r).trans hj.symm))
theorem IsRing.cj {c m : List Pc} (h : IsRing c m) : Cj m c := by
  obtain ⟨i, ci, hi, li⟩ := h
  exact li.1.cj.symm.trans hi
theorem IsRing.cyc {c m : List Pc} (h : IsRing c m) : Cyc m := by
  obtain ⟨i, ci, hi, li⟩ := h
  exact ci.rt li.1
theorem IsRing.own {c m : List Pc} (h : IsRing c m) : IsRing m m := by
  obtain ⟨i, ci, hi, li⟩ := h
  exact ⟨m, ci.rt li.1, .of rfl, .refl _, fun x r => li.2 x (li.1.trans r)⟩
/-- a least one among the first n beginnings -/
def Low (i : List Pc) (n k : Nat) : Prop := k ≤ i.length ∧ ∀ j, j < n → plt (i.drop j ++ i.take j) (i.drop k ++ i.take k) = false
theorem Low.all {i : List Pc} {k : Nat} (h : Low i i.length k) : Lst i (i.drop k ++ i.take k) := by
  refine ⟨rot_at i k, fun x r => ?_⟩
  rcases r.cut with z | ⟨j, hj, z⟩
  · subst z
    cases x with
    | nil => simp; exact ord_irr _
    | cons p x =>
      have := h.2 0 (by simp)
      simpa using this
  · subst z
    exact h.2 j hj
/-! ### name = f(..), a new list or a thing -/
variable [KC]
section
variable {X : Cx} {E : XK} {e : Expr} {es : List Expr} {pos p : Pos} {wl : WL} {k : Nat} {f : Addr} {fd : FuncData} {ps : List Str} {sp : Spec} {x : Str}
def setV (q : DEnds) (ρ : Ev) (i : Nat) : Rt → Prop
  | .new (.lst xs) => q.nx (ρ.set i (.own false (.lst xs)))
  | .new _ => False
  | .val d => q.nx (ρ.set i (.fz d))
  | .newT d => q.nx (ρ.set i (.fz d))
def wsSetV (i : Nat) (sp : Spec) (wl : WL) : WS := fun q ρ => wl q.ex ρ fun ds => Ask sp ds q.ex (setV q ρ i) ⟨⟩
theorem sd_setV (i : Nat) {y : Str} {p2 spos : Pos} (hN : X.N.Nodup) (G : FnOk X.prog X.w X.K X.mg X.base (L2N.CX X.prog X.w) k f fd ps (spOf X.mg sp)) (hr : Room k X.A) (xk : XOk X E) (hg : Gl X x) (hm : X.mg x = some (.ref f)) (hk : PySem.W.keepIn X.K (.ref f) = true) (hb : Binds X.K fd ps [])
    (ha : AD X E (e :: es) wl) (hdb : (x == ("__debug__" : Str)) = false := by decide) (he : starEach (e :: es) X.env = (false, eval e X.env) :: starEach es X.env := by rfl) (hpl : (backTo pos (starEach es X.env)).any (·.1) = false := by rfl)
    (hi : X.N[i]? = some y := by rfl) (hx : Loc X.env.scope y := by first | exact Or.inl rfl | exact Or.inr rfl) (hs : swapsWith (.Call (.Name x p) (e :: es) [] pos) (some (.Name y p2)) spos.line X.env = pure false := by rfl)
    (hf : X.fn y = true ∨ X.env.scope.names.lookup y = some .local := by first | exact .inl rfl | exact .inr rfl) : SD X E (.Assign [.Name y p2] (.Call (.Name x p) (e :: es) [] pos) spos) (wsSetV i sp wl) := by
  obtain ⟨t, pt, s⟩ := ha.ex
  refine ⟨_, ps_set hN hi hx (pe_call G hr hg hm hk hb .nil xk.pass pt hdb he hpl) hs hf, fun q ρ hw F σ H S D rp o => ?_⟩
  refine s q.ex ρ _ hw F σ H S _ rp (o.exOk rp) fun ds vs H1 S1 q1 g1 h1 => ?_
  refine ⟨ds, S1, q.ex, _, ⟨g1.sh, (rp.grow g1).fg.tb⟩, by rw [List.append_nil]; exact h1, q1, fun r v H2 S2 q2 g2 h2 => ?_, fun n C H2 S2 xn hC g2 => (o.exOk rp) n C H2 S2 xn hC (g1.trans g2)⟩
  cases r with
  | val d => exact o.nx _ _ H2 S2 q2 ((rp.grow (g1.trans g2)).set h2)
  | newT d => exact o.nx _ _ H2 S2 q2 ((rp.grow (g1.trans g2)).set h2.1)
  | new c =>
    cases c with
    | dct _ _ => exact q2.elim
    | obj _ _ _ => exact q2.elim
    | lst xs =>
      obtain ⟨p, u, rfl, z0, z1, z2, ws, rfl, z3⟩ := h2
      exact o.nx _ _ H2 S2 q2 ((rp.grow (g1.trans g2)).setOwn z1 z2 ⟨ws, rfl, z3⟩ (fg_free rp.fg (g1.freeH z0)) (own_ne rp (g1.freeH z0)))
end
end NL

/-! Errors caught: try .. except C as e, isinstance of e, defs that e is handed to. -/
namespace NL
open PySem PySem.Spec L2
open PyProof.Rows hiding St
/-- whether an error of the class n is one of the class m -/
def isSubN (n m : Str) : Bool := decide (m = "HangError") || decide (n = m)
/-- the own classes: what isinstance and except ask of them -/
def AskT (K : PySem.W.Frag) (mg : Str → Option Value) (an : List Str) : Prop :=
  ∀ m ∈ an, ∃ D, mg m = some (.ref D) ∧ PySem.W.typeIn K (.ref D) = some (.type "type") ∧ PySem.W.hasDictIn K D = true ∧ PySem.W.subIn K (.ref D) (.type "BaseException") = some true
def ErrT (K : PySem.W.Frag) (mg : Str → Option Value) (cn an : List Str) : Prop :=
  ∀ n ∈ cn, ∃ C, mg n = some (.ref C) ∧ L2.ExcC K C ∧ PySem.W.subIn K (.ref C) (.type "ValueError") = some true ∧ PySem.W.subIn K (.ref C) (.ref C) = some true ∧ ∀ m ∈ an, ∃ D, mg m = some (.ref D) ∧ PySem.W.subIn K (.ref C) (.ref D) = some (isSubN n m)
theorem all_nil {P : Str → Prop} : ∀ n ∈ ([] : List Str), P n := fun _ h => by cases h
theorem all_cons {P : Str → Prop} {m : Str} {l : List Str} (h : P m) (g : ∀ n ∈ l, P n) : ∀ n ∈ m :: l, P n := fun n hn => by
  rcases List.mem_cons.mp hn with rfl | hn
  · exact h
  · exact g n hn
theorem kit_ref {K : PySem.W.Frag} {C D : Addr} {b : Bool} (h1 : PySem.W.subIn K (.ref C) (.ref C) = some true) (ht : PySem.W.typeIn K (.ref D) = some (.type "type")) (hd : PySem.W.hasDictIn K D = true) (h : PySem.W.subIn K (.ref C) (.ref D) = some b) :
    PySem.W.kitOne K (.ref C) (.ref D) = some b := by
  unfold PySem.W.kitOne
  by_cases e : C = D
  · subst e
    rw [if_pos (beq_self_eq_true _), ← h1, h]
  · rw [if_neg (fun z => e (Value.ref.inj (beq_iff_eq.mp z)))]
    obtain ⟨cd, hc, _⟩ := PySem.W.any_some hd
    have e2 : ((PySem.W.clsIn K D).isSome && PySem.W.typeIn K (.ref D) == some (.type "type")) = true := by rw [hc, ht] <;> rfl
    show (if ((PySem.W.clsIn K D).isSome && PySem.W.typeIn K (.ref D) == some (.type "type")) = true then PySem.W.subIn K (.ref C) (.ref D) else none) = some b
    rw [if_pos e2, h]
theorem kit_val {K : PySem.W.Frag} {C : Addr} (h : PySem.W.subIn K (.ref C) (.type "ValueError") = some true) : PySem.W.kitOne K (.ref C) (.type "ValueError") = some true := by
  unfold PySem.W.kitOne
  rw [if_neg (fun z => by cases (beq_iff_eq.mp z))]
  show (if PySem.W.kitMeta "ValueError" = true then PySem.W.subIn K (.ref C) (.type "ValueError") else none) = some true
  rw [if_pos (by decide +kernel), h]
/-- p's error, of the class at C, is at hand -/
structure ErrP (p : Addr × Obj) (C : Addr) : Prop where
  z : L2N.Zn (.ref C) none p.2
  f : ∃ vs, p.2.data = .fields vs
/-- the context knows the error at a, of the class n -/
def HotE (X : Cx) (a : Addr) (n : Str) : Prop := ∃ (p : Addr × Obj) (C : Addr), p ∈ X.pn ∧ p.1 = a ∧ X.mg n = some (.ref C) ∧ ErrP p C
theorem call_isP {X : Cx} {p : Addr × Obj} {C : Addr} (hp : p ∈ X.pn) (c : L2.ExcC X.K C) (e : ErrP p C) : CallR X (.builtin "isinstance") (rIsE X.K C p.1) := by
  intro pins s σ H xs us Q inv rel hyp
  obtain ⟨cl, cv, ans, rfl, tell, kit, fin⟩ := hyp
  match rel with
  | .cons ra (.cons rb .nil) =>
    obtain rfl := tell _ rb
    cases ra
    have at1 := (inv.pin p (List.mem_append_left _ hp)).1
    have inst : PySem.W.InstAt s.heap p.1 p.2 C none := by
      obtain ⟨a, o⟩ := p
      obtain ⟨⟨z1, z2, _⟩, vs, z3⟩ := e
      cases o
      simp only at z1 z2 z3
      subst z1 z2 z3
      exact ⟨at1, rfl, rfl, trivial⟩
    have kx := PySem.W.handS_kitx_exc (x := p.1) (ox := p.2) c.hg c.hk c.hs c.hd c.ha c.hn c.ht c.hm
    exact PySem.W.kia_one kx inv.kIn inst kit (fun z => nomatch z) (fun tk => ⟨.bl ans, H, inv.kept (t' := tk) (fun _ _ w => w), rfl, fin⟩)
section
variable [KC] {X : Cx} {E : XK} {e : Expr} {es : List Expr} {pos p q : Pos} {wa : WE} {wl : WL} {cn an : List Str} {a : Addr} {n m x : Str}
def wIsE (a : Addr) (n m : Str) (wa : WE) : WE := fun x ρ Q => wa x ρ fun d => d = .ref a ∧ Q (.bl (isSubN n m))
def wIsV (a : Addr) (wa : WE) : WE := fun x ρ Q => wa x ρ fun d => d = .ref a ∧ Q (.bl true)
theorem ed_isE (hx : HotE X a n) (er : ErrT X.K X.mg cn an) (ak : AskT X.K X.mg an) (hn : n ∈ cn) (hm : m ∈ an) (hg : Gl X "isinstance") (hmi : X.mg "isinstance" = none) (hgm : Gl X m) (hdm : (m == ("__debug__" : Str)) = false) (ha : ED X E e wa)
    (he : starEach (e :: [.Name m q]) X.env = (false, eval e X.env) :: starEach [.Name m q] X.env := by rfl) (he2 : starEach [.Name m q] X.env = (false, eval (.Name m q) X.env) :: starEach [] X.env := by rfl) (hpl : (backTo pos (starEach [.Name m q] X.env)).any (·.1) = false := by rfl) :
    ED X E (.Call (.Name "isinstance" p) [e, .Name m q] [] pos) (wIsE a n m wa) := by
  obtain ⟨t, pt, s⟩ := ha.ex
  obtain ⟨r, C, hr, rfl, hC, err⟩ := hx
  obtain ⟨C', g1, g2, g3, g4, g5⟩ := er n hn
  obtain ⟨D, d1, d2⟩ := g5 m hm
  obtain ⟨D', d3, d4, d5, _⟩ := ak m hm
  rw [hC] at g1
  cases g1
  rw [d1] at d3
  cases d3
  have pT : PE X (.Name m q) (tC (.ref D)) := pe_glob hgm d1 rfl hdm
  refine ⟨_, pe_callB (call_isP hr g2 err) hg hmi (by decide +kernel) (pa_cons pt (pa_cons pT pa_nil he2) he) (by decide) (by decide) he hpl, fun x ρ Q hw F σ H S Q' rp ex k => ?_⟩
  refine s x ρ _ hw F σ H S _ rp ex fun d u H1 S1 q1 g1 h1 => ?_
  obtain ⟨rfl, q2⟩ := q1
  unfold Dat at h1
  subst h1
  exact ⟨.ref D, .ref D, _, rfl, fun u hu => hu, kit_ref g4 d4 d5 d2, k _ _ H1 S1 q2 g1 .b⟩
theorem ed_isV (hx : HotE X a n) (er : ErrT X.K X.mg cn an) (hn : n ∈ cn) (hg : Gl X "isinstance") (hmi : X.mg "isinstance" = none) (hgm : Gl X "ValueError") (hmv : X.mg "ValueError" = none) (ha : ED X E e wa)
    (he : starEach (e :: [.Name "ValueError" q]) X.env = (false, eval e X.env) :: starEach [.Name "ValueError" q] X.env := by rfl) (he2 : starEach [.Name "ValueError" q] X.env = (false, eval (.Name "ValueError" q) X.env) :: starEach [] X.env := by rfl) (hpl : (backTo pos (starEach [.Name "ValueError" q] X.env)).any (·.1) = false := by rfl) :
    ED X E (.Call (.Name "isinstance" p) [e, .Name "ValueError" q] [] pos) (wIsV a wa) := by
  obtain ⟨t, pt, s⟩ := ha.ex
  obtain ⟨r, C, hr, rfl, hC, err⟩ := hx
  obtain ⟨C', g1, g2, g3, g4, g5⟩ := er n hn
  rw [hC] at g1
  cases g1
  have pT : PE X (.Name "ValueError" q) (tC (.ty "ValueError")) := pe_bltn hgm hmv (by decide +kernel) rfl (by decide) (by decide)
  refine ⟨_, pe_callB (call_isP hr g2 err) hg hmi (by decide +kernel) (pa_cons pt (pa_cons pT pa_nil he2) he) (by decide) (by decide) he hpl, fun x ρ Q hw F σ H S Q' rp ex k => ?_⟩
  refine s x ρ _ hw F σ H S _ rp ex fun d u H1 S1 q1 g1 h1 => ?_
  obtain ⟨rfl, q2⟩ := q1
  unfold Dat at h1
  subst h1
  exact ⟨.ty "ValueError", .type "ValueError", _, rfl, fun u hu => hu, kit_val g3, k _ _ H1 S1 q2 g1 .b⟩
end
/-! ### a def that an error is handed to, while it is handled -/
structure FnE (P : Program) (w : World) (K : PySem.W.Frag) (mg : Str → Option Value) (base : Heap) [KC] (cn : List Str) (k : Nat) (f : Addr) (fd : FuncData) (ps : List Str) (sp : Addr → Str → Spec) : Prop where
  len : ∀ a n ds x R, sp a n ds x R → ds.length = ps.length
  run : ∀ (A : Around) (outer : List Env) (s : Shared) (H : Hp) (args : Args) (us : List Value) (vs : List V) (p : Addr × Obj) (n : Str) (C : Addr) (ds : List D) (S : Hp) (R : Rt → Prop) (Q : VK),
    L2H.RoomH k A → L2H.PinOk outer H s p → n ∈ cn → mg n = some (.ref C) → ErrP p C → Env0 P w K mg base A outer s H → BindsTo s fd args (ps.zip us) → Vals vs us → (Same S H ∧ Tbq S H) → Dats S ds vs → sp p.1 n ds (fun _ => False) R →
    (∀ r v H' S', R r → Grow H S H' S' → RtP H H' S' r v → Q v H') → codeAny (model P w) A (.call (.ref f) args) (CR (L2N.CX P w) outer P w H s Q E0) s
abbrev cxE (P : Program) (w : World) (K : PySem.W.Frag) (mg : Str → Option Value) (base : Heap) (N : List Str) (qual : Str) (sc : Scope) (f : Addr) (cdv : Value) (A : Around) (outer : List Env) (s : Shared) (H : Hp) (p : Addr × Obj) : Cx :=
  L2H.cxH (L2N.CX P w) P w K mg base N qual sc f cdv A outer s H E0 p
section
variable [KC] {P : Program} {w : World} {K : PySem.W.Frag} {mg : Str → Option Value} {base : Heap}
theorem fn_okE {cn : List Str} {x qual : Str} {st : Stmt} {f : Addr} {fd : FuncData} {N ps : List Str} {k : Nat} {sp : Addr → Str → Spec} (F : Fun K x qual st f fd) (S : FnScope N ps (defScope st)) (len : ∀ a n ds x R, sp a n ds x R → ds.length = ps.length)
    (hbody : ∀ (cdv : Value) (A : Around) (outer : List Env) (s : Shared) (H : Hp) (p : Addr × Obj) (n : Str), n ∈ cn → L2H.RoomH k (A.deeper (envOfC qual (defScope st) s.heap.objs.size f cdv)) → HotE (cxE P w K mg base N qual (defScope st) f cdv A outer s H p) p.1 n →
      ∃ ws, SDs (cxE P w K mg base N qual (defScope st) f cdv A outer s H p) E0 (defBody st) ws ∧ ∀ ds R, sp p.1 n ds (fun _ => False) R → ws (endsOf R fun _ => False) (startE N.length ds)) :
    FnE P w K mg base cn (k + 1) f fd ps sp := by
  obtain ⟨oc, od, kV, doc, pm, ann, cdv, ct, osl, rfl, found, code⟩ := F.ex
  refine ⟨len, fun A outer s H args us vs p n C ds S0 R Q room pin hcn gC err env0 bind rel ⟨sh, tb⟩ dat ask give => ?_⟩
  have nps : ps.length ≤ N.length := by
    have := congrArg List.length S.pre
    simp only [List.length_take] at this
    omega
  have nds := len _ _ _ _ _ ask
  have nvs : vs.length = ps.length := by rw [dat.len, nds]
  have inK : K.In s.heap := env0.mod.kin.keeps (fun b o z => (env0.bs b o z).1)
  have noLim : s.heap.NoLimit := env0.mod.nolimit.keeps (fun b o z => (env0.bs b o z).1)
  refine codeAny_call_function room.depth (inK _ _ found) rfl S.co S.gen rfl (PySem.W.codeRec_of inK code) (bind _ _ _ _ (wpAny_newFunctionEnv_cells S.kind ?_ (fun env he s1 made => ?_)))
  · rintro ⟨y, v⟩ hy
    rcases S.par y (List.of_mem_zip hy).1 with z | z
    · exact .inl z
    · exact .inr ⟨z, PySem.W.cellsFrom_some _ _ _ (.inl z)⟩
  · subst he
    refine ⟨noLim.keeps made.toInCall.keep, codeAny_func ?_⟩
    have start : Inv (cxE P w K mg base N qual (defScope st) f cdv A outer s H p) [] (L2.start N vs) H s1 := L2H.inv_startH S pin env0 nvs rel made
    obtain ⟨ws, sd, pure⟩ := hbody cdv A outer s H p n hcn (room.deeper _) ⟨p, C, List.mem_singleton.mpr rfl, rfl, gC, err⟩
    obtain ⟨t, pt, so⟩ := sd.ex
    have gr : ∀ {H' S' : Hp}, FGrow { H0 := H, S0 := S0, M := fun _ => False } H' S' → Grow H S0 H' S' := fun g => ⟨⟨fun a o z n => g.hh a o (fun y => y) z n, g.al, g.ft⟩, g.ss, g.sh, g.nw⟩
    have word := so _ _ (pure ds R ask) _ _ H S0 { nx := fun _ H' => Q .non H', rt := Q } (rep_start (N := N) sh tb dat (by omega)) ⟨fun ρ σ H' S' z r => give _ _ H' S' z (gr r.fg) (show Dat S' .non .non from .n), fun r ρ v σ H' S' z rp y => give r v H' S' z (gr rp.fg) y, fun _ _ _ _ z => z.elim, fun _ _ _ _ z => z.elim, fun _ _ _ _ z => z.elim⟩
    have close : ∀ {σ' : L2.St} {H' : Hp} {v : V} {u : Value} {s' : Shared}, Inv (cxE P w K mg base N qual (defScope st) f cdv A outer s H p) [] σ' H' s' → RelV v u → Q v H' → CE outer P w H s Q u s' := fun J rv z => ⟨_, _, J.os, J.bare, J.base, J.hok, rv, z⟩
    refine wpAny_mono (pt.run [] s1 (L2.start N vs) H _ start word) (fun fl s' out => ?_) (fun e s' out => out)
    match fl, out with
    | .ret u, ⟨v, σ', H', J, rv, z⟩ => exact close J rv z
    | .next, ⟨σ', H', J, z⟩ => exact close (v := V.non) (u := Value.none) J rfl z
    | .brk, ⟨_, _, _, z⟩ => exact z.elim
    | .cont, ⟨_, _, _, z⟩ => exact z.elim
end
section
variable [KC] {X : Cx} {E : XK} {e : Expr} {es : List Expr} {pos p q : Pos} {wa : WE} {wl : WL} {a : Addr} {n x : Str} {k : Nat} {f : Addr} {fd : FuncData} {ps : List Str} {sp : Addr → Str → Spec}
def wCallE (sp : Spec) (wl : WL) : WE := fun x ρ Q => wl x ρ fun ds => Ask sp ds (fun _ => False) (fun r => Q r.d) ⟨⟩
theorem ed_callE {cn : List Str} (hx : HotE X a n) (hcn : n ∈ cn) (G : FnE X.prog X.w X.K X.mg X.base cn k f fd ps sp) (hr : L2H.RoomH k X.A) (hg : Gl X x) (hm : X.mg x = some (.ref f)) (hk : PySem.W.keepIn X.K (.ref f) = true) (hb : Binds X.K fd ps [])
    (ha : AD X E (e :: es) wl) (hdb : (x == ("__debug__" : Str)) = false := by decide) (he : starEach (e :: es) X.env = (false, eval e X.env) :: starEach es X.env := by rfl) (hpl : (backTo pos (starEach es X.env)).any (·.1) = false := by rfl) :
    ED X E (.Call (.Name x p) (e :: es) [] pos) (wCallE (sp a n) wl) := by
  obtain ⟨t, pt, s⟩ := ha.ex
  obtain ⟨r, C, hr1, rfl, hC, err⟩ := hx
  refine ⟨fun σ H Q' => t σ H fun vs H1 => ∃ ds S R, (Same S H1 ∧ Tbq S H1) ∧ Dats S ds vs ∧ sp r.1 n ds (fun _ => False) R ∧ ∀ z v H' S', R z → Grow H1 S H' S' → RtP H1 H' S' z v → Q' v H', ⟨fun pins st σ H Q I h => ?_⟩, fun x ρ Q hw F σ H S Q' rp ex k => ?_⟩
  · refine wpAny_Call_Name_kw (ld_glob I hg hm ?_ hdb)
    refine PySem.W.callWith_K (h₀ := X.base) I.ok.mod.kin hk (thn (pt.run pos pins st σ H _ I h) (fun us s1 ⟨vs, H1, I1, rel, ds, S, R, sh, dat, ask, give⟩ => ⟨I1.kIn, ?_⟩)) he hpl
    have nds := G.len _ _ _ _ _ ask
    have nus : us.length = ps.length := by rw [← rel.length, dat.len, nds]
    have bnd := hb s1 us I1.kIn (by rw [List.append_nil]; exact nus)
    rw [List.append_nil] at bnd
    obtain ⟨p1, p2, p3, p4, p5⟩ := I1.pin r (List.mem_append_left _ hr1)
    have pin : L2H.PinOk X.stack H1 s1 r := ⟨p1, p2, fun z => (List.mem_cons.mp (I1.stkSub r.1 z)).elim p3 p4, p5⟩
    refine wpAny_call (codeAny_mono (G.run X.A X.stack s1 H1 ⟨us, []⟩ us vs r n C ds S R Q hr pin hcn hC err I1.env0 bnd rel sh dat ask give) fun res s' out => ?_)
    match res, out with
    | .ok (.ret u), out => exact I1.after out
    | .error e, out =>
      obtain ⟨_, _, _, _, _, _, _, _, _, _, _, _, z⟩ := out
      exact z.elim
  · refine s x ρ _ hw F σ H S _ rp ex fun ds vs H1 S1 q1 g1 h1 => ?_
    refine ⟨ds, S1, _, ⟨g1.sh, (rp.grow g1).fg.tb⟩, h1, q1, fun z v H2 S2 q2 g2 h2 => ?_⟩
    obtain ⟨S3, g3, h3⟩ := h2.dat g2
    exact k _ _ H2 S3 q2 (g1.trans g3) h3
end
/-! ### try: f(..) / x = f(..) except C as e: suite -/
section
variable [KC] {X : Cx} {E : XK} {e : Expr} {es : List Expr} {wl : WL} {x nm cn' : Str} {k : Nat} {f : Addr} {fd : FuncData} {ps : List Str} {sp : Spec} {b0 : Stmt} {suite : List Stmt} {p np pos pos1 pos2 pos3 : Pos} {HE : Addr} {cn an : List Str} {ws : Addr → Str → WS}
def canA (mg : Str → Option Value) (w : WL) : TA := fun σ H Q' => ∃ (x : XS) (ρ : Ev) (Q : List D → Prop) (F : Fr) (S : Hp), w x ρ Q ∧ Rep F ρ σ H S ∧ ExOk mg E0 x H S ∧ ∀ ds vs H' S', Q ds → Grow H S H' S' → Dats S' ds vs → Q' vs H'
theorem AD.can (h : AD X E0 es wl) : PA X es (canA X.mg wl) := by
  obtain ⟨t, p, s⟩ := h.ex
  refine ⟨fun ps pins st σ H Q I hq => ?_⟩
  obtain ⟨x, ρ, Q2, F, S, h1, h2, h3, h4⟩ := hq
  exact p.run ps pins st σ H Q I (s x ρ Q2 h1 F σ H S Q h2 h3 h4)
def canS (mg : Str → Option Value) (cn : List Str) (ws : Addr → Str → WS) : Addr → Value → Option Addr → TS := fun a cls d D σ H => ∃ (n : Str) (C : Addr) (q : DEnds) (ρ : Ev) (F : Fr) (S : Hp), n ∈ cn ∧ mg n = some (.ref C) ∧ cls = .ref C ∧ d = none ∧ ws a n q ρ ∧ Rep F ρ σ H S ∧ EndsOk mg E0 F q D
/-- the suite's ends: the name is taken away -/
def DEnds.off (q : DEnds) (i : Nat) : DEnds := { nx := fun ρ => q.nx (ρ.set i .un), rt := q.rt, bk := fun ρ => q.bk (ρ.set i .un), ct := fun ρ => q.ct (ρ.set i .un), ex := fun _ => False }
def wTry (cn : List Str) (i : Nat) (sp : Spec) (wl : WL) (st : Rt → Ev → Ev) (ws : Addr → Str → WS) : WS := fun q ρ => wl (fun _ => False) ρ fun ds => Ask sp ds (fun n => n ∈ cn ∧ ∀ a, ws a n (q.off i) (ρ.set i (.fz (.ref a)))) (fun r => q.nx (st r ρ)) ⟨⟩
theorem EndsOk.off {mg : Str → Option Value} {F : Fr} {q : DEnds} {D : Ends} {i : Nat} (o : EndsOk mg E F q D) : EndsOk mg E0 F (q.off i) { nx := fun σ' H' => D.nx (σ'.set i none) H', rt := D.rt, bk := fun σ' H' => D.bk (σ'.set i none) H', ct := fun σ' H' => D.ct (σ'.set i none) H' } :=
  ⟨fun ρ σ H S h r => o.nx _ _ H S h r.unset, o.rt, fun ρ σ H S h r => o.bk _ _ H S h r.unset, fun ρ σ H S h r => o.ct _ _ H S h r.unset, fun _ _ _ _ z => z.elim⟩
theorem exm_of {K : PySem.W.Frag} {C D : Addr} (t : PySem.W.typeIn K (.ref D) = some (.type "type")) (d : PySem.W.hasDictIn K D = true) (b : PySem.W.subIn K (.ref D) (.type "BaseException") = some true) {v : Bool} (h : PySem.W.subIn K (.ref C) (.ref D) = some v) : PySem.W.exmOne K (.ref C) (.ref D) = some v :=
  PySem.W.exm_ref b d t h
/-- try: f(..) -/
theorem sd_tryE (i : Nat) (G : FnOk X.prog X.w X.K X.mg X.base (L2N.CX X.prog X.w) k f fd ps (spOf X.mg sp)) (hr : Room k X.A) (hg : Gl X x) (hm : X.mg x = some (.ref f)) (hk : PySem.W.keepIn X.K (.ref f) = true) (hb : Binds X.K fd ps [])
    (ha : ∀ (pn : List (Addr × Obj)) (xe : Value → Shared → Prop), AD (X.tr pn xe) E0 (e :: es) wl) (er : ErrT X.K X.mg cn an) (ak : AskT X.K X.mg an) (hH : ("HangError" : Str) ∈ an)
    (hsu : ∀ (a : Addr) (n : Str) (pn : List (Addr × Obj)), n ∈ cn → HotE (X.suite a pn) a n → SDs (X.suite a pn) E0 (b0 :: suite) (ws a n))
    (hgH : Gl X "HangError") (hst : X.stack = X.env :: X.outer := by rfl) (hfr : X.env.frame = some X.env.locals := by rfl) (hN : X.N.Nodup) (hi : X.N[i]? = some nm := by rfl) (hln : X.env.kindOf nm = some .local := by rfl)
    (hdb : (x == ("__debug__" : Str)) = false := by decide) (he : starEach (e :: es) X.env = (false, eval e X.env) :: starEach es X.env := by rfl) (hpl : (backTo pos (starEach es X.env)).any (·.1) = false := by rfl) (hs : swapsWith (.Call (.Name x p) (e :: es) [] pos) none pos1.line X.env = pure false := by rfl) :
    SD X E (.Try [.Expr (.Call (.Name x p) (e :: es) [] pos) pos1] [.ExceptHandler (some (.Name "HangError" np)) (some nm) (b0 :: suite) pos2] [] [] pos3) (wTry cn i sp wl (fun _ ρ => ρ) ws) := by
  obtain ⟨HA, m1, m2, m3, m4⟩ := ak _ hH
  refine ⟨_, L2N.ps_try_as (c := .ref HA) (i := i) (ts := canS X.mg cn ws) (tb := fun W => tSeq (tDrop (tCallS (spOf X.mg sp) (L2.WE W) (canA X.mg wl))) tNext) hst hfr hN hi hln ⟨hgH, by decide, .inl m1⟩ takesN (fun W pn xe tk _ => ?_) (fun a oe cls d pn hz hf => ⟨fun pins s σ H D I h => ?_⟩), fun q ρ hw F σ H S D rp o => ?_⟩
  · exact pss_one (ps_expr (pe_callS (X := X.tr pn xe) G hr hg hm hk hb (fun σ => L2N.passAt tk σ) (ha pn xe).can hdb he hpl) hs)
  · obtain ⟨n, C, q, ρ, F, S, hn, gC, rfl, rfl, hw, rp, o⟩ := h
    obtain ⟨t, pt, so⟩ := (hsu a n _ hn ⟨(a, oe), C, List.mem_cons_self, rfl, gC, ⟨hz, hf⟩⟩).ex
    exact pt.run pins s σ H D I (so q ρ hw F σ H S D rp o)
  · refine ⟨fun _ => False, ρ, _, F, S, hw, rp, (fun _ _ _ _ z => z.elim), fun ds vs H1 S1 ask g1 h1 => ⟨ds, S1, _, _, ⟨g1.sh, (rp.grow g1).fg.tb⟩, h1, ask, fun r v H2 S2 q2 g2 h2 => ?_, fun n C H2 S2 hx hC g2 => ?_⟩⟩
    · obtain ⟨S3, g3, h3⟩ := h2.dat g2
      exact o.nx _ _ H2 S3 q2 (rp.grow (g1.trans g3))
    · obtain ⟨hn, hx⟩ := hx
      obtain ⟨C', c1, c2, c3, c4, c5⟩ := er n hn
      obtain ⟨D', d1, d2⟩ := c5 _ hH
      rw [m1] at d1
      cases d1
      rw [hC] at c1
      cases c1
      have yes : isSubN n "HangError" = true := by simp [isSubN]
      refine ⟨true, by rw [exm_of m2 m3 m4 d2, yes], fun _ b hb => ?_, fun z => nomatch z⟩
      exact ⟨n, C, q.off i, _, F, S2, hn, hC, rfl, rfl, hx b, (rp.grow (g1.trans g2)).set (d := .ref b) (by unfold Dat; rfl), o.off⟩
/-- try: y = f(..) -/
theorem sd_tryA (i j : Nat) {y : Str} {py : Pos} (G : FnOk X.prog X.w X.K X.mg X.base (L2N.CX X.prog X.w) k f fd ps (spOf X.mg sp)) (hr : Room k X.A) (hg : Gl X x) (hm : X.mg x = some (.ref f)) (hk : PySem.W.keepIn X.K (.ref f) = true) (hb : Binds X.K fd ps [])
    (ha : ∀ (pn : List (Addr × Obj)) (xe : Value → Shared → Prop), AD (X.tr pn xe) E0 (e :: es) wl) (er : ErrT X.K X.mg cn an) (ak : AskT X.K X.mg an) (hH : ("HangError" : Str) ∈ an)
    (hsu : ∀ (a : Addr) (n : Str) (pn : List (Addr × Obj)), n ∈ cn → HotE (X.suite a pn) a n → SDs (X.suite a pn) E0 (b0 :: suite) (ws a n))
    (hgH : Gl X "HangError") (hst : X.stack = X.env :: X.outer := by rfl) (hfr : X.env.frame = some X.env.locals := by rfl) (hN : X.N.Nodup) (hi : X.N[i]? = some nm := by rfl) (hln : X.env.kindOf nm = some .local := by rfl)
    (hdb : (x == ("__debug__" : Str)) = false := by decide) (he : starEach (e :: es) X.env = (false, eval e X.env) :: starEach es X.env := by rfl) (hpl : (backTo pos (starEach es X.env)).any (·.1) = false := by rfl) (hj : X.N[j]? = some y := by rfl) (hy : Loc X.env.scope y := by first | exact Or.inl rfl | exact Or.inr rfl) (hfy : X.fn y = true ∨ X.env.scope.names.lookup y = some .local := by first | exact .inl rfl | exact .inr rfl)
    (hs : swapsWith (.Call (.Name x p) (e :: es) [] pos) (some (.Name y py)) pos1.line X.env = pure false := by rfl) :
    SD X E (.Try [.Assign [.Name y py] (.Call (.Name x p) (e :: es) [] pos) pos1] [.ExceptHandler (some (.Name "HangError" np)) (some nm) (b0 :: suite) pos2] [] [] pos3) (wTry cn i sp wl (fun r ρ => ρ.set j (.fz r.d)) ws) := by
  obtain ⟨HA, m1, m2, m3, m4⟩ := ak _ hH
  refine ⟨_, L2N.ps_try_as (c := .ref HA) (i := i) (ts := canS X.mg cn ws) (tb := fun W => tSeq (tAsg (tCallS (spOf X.mg sp) (L2.WE W) (canA X.mg wl)) (gName j)) tNext) hst hfr hN hi hln ⟨hgH, by decide, .inl m1⟩ takesN (fun W pn xe tk _ => ?_) (fun a oe cls d pn hz hf => ⟨fun pins s σ H D I h => ?_⟩), fun q ρ hw F σ H S D rp o => ?_⟩
  · exact pss_one (ps_set (X := X.tr pn xe) hN hj hy (pe_callS (X := X.tr pn xe) G hr hg hm hk hb (fun σ => L2N.passAt tk σ) (ha pn xe).can hdb he hpl) hs hfy)
  · obtain ⟨n, C, q, ρ, F, S, hn, gC, rfl, rfl, hw, rp, o⟩ := h
    obtain ⟨t, pt, so⟩ := (hsu a n _ hn ⟨(a, oe), C, List.mem_cons_self, rfl, gC, ⟨hz, hf⟩⟩).ex
    exact pt.run pins s σ H D I (so q ρ hw F σ H S D rp o)
  · refine ⟨fun _ => False, ρ, _, F, S, hw, rp, (fun _ _ _ _ z => z.elim), fun ds vs H1 S1 ask g1 h1 => ⟨ds, S1, _, _, ⟨g1.sh, (rp.grow g1).fg.tb⟩, h1, ask, fun r v H2 S2 q2 g2 h2 => ?_, fun n C H2 S2 hx hC g2 => ?_⟩⟩
    · obtain ⟨S3, g3, h3⟩ := h2.dat g2
      exact o.nx _ _ H2 S3 q2 ((rp.grow (g1.trans g3)).set h3)
    · obtain ⟨hn, hx⟩ := hx
      obtain ⟨C', c1, c2, c3, c4, c5⟩ := er n hn
      obtain ⟨D', d1, d2⟩ := c5 _ hH
      rw [m1] at d1
      cases d1
      rw [hC] at c1
      cases c1
      have yes : isSubN n "HangError" = true := by simp [isSubN]
      refine ⟨true, by rw [exm_of m2 m3 m4 d2, yes], fun _ b hb => ?_, fun z => nomatch z⟩
      exact ⟨n, C, q.off i, _, F, S2, hn, hC, rfl, rfl, hx b, (rp.grow (g1.trans g2)).set (d := .ref b) (by unfold Dat; rfl), o.off⟩
end
theorem roomH_mark {k : Nat} {A : Around} {v : Option Value} (r : Room k A) : L2H.RoomH k (A.mark v) := ⟨r.dp, r.un⟩
/-! a truth in a list of truths -/
section
variable [KC] {X : Cx}
omit [KC] in
theorem inV_bl (b : Bool) : ∀ bs : List Bool, (bs.map V.bl).all flatV = true ∧ inV (.bl b) (bs.map V.bl) = decide (b ∈ bs)
  | [] => ⟨rfl, by simp [inV]⟩
  | m :: bs => by
    obtain ⟨h1, h2⟩ := inV_bl b bs
    refine ⟨by rw [List.map_cons, List.all_cons, h1]; rfl, ?_⟩
    unfold inV at h2 ⊢
    rw [List.map_cons, List.any_cons, h2]
    have : eqV (.bl m) (.bl b) = decide (b = m) := by
      show (m == b) = _
      cases m <;> cases b <;> rfl
    rw [this]
    by_cases e : b = m <;> simp [e]
def gInB (neg : Bool) : D → D → (D → Prop) → Prop
  | .bl n, .lst xs, Q => ∃ bs : List Bool, xs = bs.map D.bl ∧ Q (.bl (neg ^^ decide (n ∈ bs)))
  | _, _, _ => False
theorem dNotInB (hK : X.K = KC.K := by rfl) : OpD X (compareOp .NotIn) (gInB true) := by
  refine ⟨_, op_notIn_seq, fun d e Q h H S u v Q' sh hd he k => ?_⟩
  unfold gInB at h
  split at h
  · obtain ⟨bs, rfl, q⟩ := h
    cases hd.b
    obtain ⟨a, ws, rfl, r, z⟩ := he
    have := z.ofBls
    subst this
    obtain ⟨i1, i2⟩ := inV_bl _ bs
    exact ⟨a, _, rfl, .inl (.of r), rfl, i1, by rw [i2]; simpa using k _ _ H S q (.refl sh) .b⟩
  · exact h.elim
end

/-! ### `{}`; l.count(b), l.index(b) of truths; try: y = f(..), the new list owned -/
section
variable [KC] {X : Cx} {E : XK} {e : Expr} {es : List Expr} {wa wb : WE} {wl : WL} {x nm cn' : Str} {k : Nat} {f : Addr} {fd : FuncData} {ps : List Str} {sp : Spec} {b0 : Stmt} {suite : List Stmt} {p np pos pos1 pos2 pos3 apos : Pos} {HE : Addr} {cn an : List Str} {ws : Addr → Str → WS}
def wDct0 : WE := fun _ _ Q => Q (.dct [] [])
theorem ed_dct0 : ED X E (.Dict [] [] pos) wDct0 := by
  refine ⟨_, pe_dnewK, fun x ρ Q hw F σ H S Q' rp ex k => fun a h0 => ?_⟩
  have g : Grow H S H S := .refl rp.fg.sh
  refine k _ _ _ (upd S a (.dK [])) hw ((g.lay h0).share (o := .dK []) h0 (g.freeS h0) upd_same) ?_
  unfold Dat
  refine ⟨a, [], rfl, upd_same, rfl, ?_⟩
  unfold Dats
  rfl
theorem cnt_eqU {y : V} : ∀ {xs : List V} {us : List Value}, Vals xs us → xs.all flatV = true → us.countP (eqU y) = xs.countP fun z => eqV z y
  | _, _, .nil, _ => rfl
  | z :: xs, u :: us, .cons r t, f => by
    rw [List.all_cons, Bool.and_eq_true] at f
    rw [List.countP_cons, List.countP_cons, eqU_of r f.1, cnt_eqU t f.2]
def rCntF (K : PySem.W.Frag) : V → List V → Hp → VK → Prop := fun x xs H Q => ∃ (a : Addr) (ys : List V) (y : V), x = V.ref a ∧ xs = [y] ∧ SqL K H a ys ∧ flatV y = true ∧ ys.all flatV = true ∧ Q (.int (ys.countP (fun z => eqV z y) : Nat)) H
theorem mt_countF : MtR X "list.count" (rCntF X.K) := by
  intro pins s σ H x xs v us Q I rx rxs h
  obtain ⟨a, ys, y, rfl, rfl, hs, fy, fys, q⟩ := h
  cases rx
  cases rxs with
  | cons ry rt =>
    rename_i uy ut
    cases rt
    obtain ⟨its, rv, ⟨⟨cls, dd, data, sl⟩, n, ho, hc, hdn, hd⟩, hlen⟩ := I.list hs
    simp only at hc hd
    subst hc hd
    refine call_meets PySem.F.slot_list_count ⟨_, ho, rfl⟩ PySem.F.entry_list_count (PySem.F.args_list_count_2 _ _)
      (SeqAt.list_countAt a its.toArray n dd sl uy (eqU y)) ⟨ho, fun u' hu' => mem_eqAt ry fy rv fys u' (by simpa using hu'), ?_⟩
    refine ⟨.int (ys.countP (fun z => eqV z y) : Nat), H, I.tok _, ⟨s.toks, ?_⟩, q⟩
    show Value.int ((its.toArray.toList.countP (eqU y) : Nat) : Int) s.toks = _
    rw [show its.toArray.toList = its from rfl, cnt_eqU rv fys]
def wCntB (wa : WE) (wl : WL) : WE := fun x ρ Q => wa x ρ fun d => match d with
  | .lst xs => wl x ρ fun es => match es with
    | [.bl b] => ∃ bs : List Bool, xs = bs.map D.bl ∧ Q (.int (bs.count b : Nat))
    | _ => False
  | _ => False
def wIdxB (wa : WE) (wl : WL) : WE := fun x ρ Q => wa x ρ fun d => match d with
  | .lst xs => wl x ρ fun es => match es with
    | [.bl b] => ∃ (bs : List Bool) (j : Nat), xs = bs.map D.bl ∧ bs[j]? = some b ∧ (∀ m, m < j → bs[m]? ≠ some b) ∧ Q (.int (j : Nat))
    | _ => False
  | _ => False
theorem flat_bl (b : Bool) : flatV (.bl b) = true := rfl
theorem flat_bls (bs : List Bool) : (bs.map V.bl).all flatV = true := by simp [flatV]
theorem dats_bl1 {S : Hp} {b : Bool} {vs : List V} (h : Dats S [.bl b] vs) : vs = [.bl b] := Dats.ofBls (ns := [b]) h
theorem ed_cntB {o : Expr} (ho : ED X E o wa) (ha : AD X E (e :: es) wl)
    (hbase : attributeBase o "count" X.env (eval o X.env) = eval o X.env := by rfl)
    (hfew : ((backTo pos (starEach (e :: es) X.env)).all (fun x => !x.1) && (backToKw pos (keywordEach [] X.env)).all (fun x => x.1.isSome)
      && decide ((e :: es).length + ([] : List Keyword).length + (if ([] : List Keyword).isEmpty then 0 else 1) < 30)) = true := by rfl)
    (hline : (apos.endLine == pos.line) = true := by rfl) (hst : starEach (e :: es) X.env = (false, eval e X.env) :: starEach es X.env := by rfl) (hplain : (backTo pos (starEach es X.env)).any (·.1) = false := by rfl) :
    ED X E (.Call (.Attribute o "count" apos) (e :: es) [] pos) (wCntB wa wl) := by
  obtain ⟨t1, p1, s1⟩ := ho.ex
  obtain ⟨t2, p2, s2⟩ := ha.ex
  refine ⟨_, pe_bm PySem.F.plainAttrs_list PySem.F.slot_list_count PySem.F.type_list_count mt_countF p1 p2 hbase hfew hline hst hplain, fun x ρ Q hw F σ H S Q' rp ex k => ?_⟩
  refine s1 x ρ _ hw F σ H S _ rp ex fun d u H1 S1 q1 g1 h1 => ?_
  cases d with
  | lst xs =>
    obtain ⟨a, vs, rfl, r, z⟩ := h1
    refine ⟨.inl ⟨rfl, _, .of (g1.sh _ _ r)⟩, ?_⟩
    refine s2 x ρ _ q1 F σ H1 S1 _ (rp.grow g1) (ex.grow g1) fun es us H2 S2 q2 g2 h2 => ?_
    match es, q2, h2 with
    | [.bl b], q2, h2 =>
      obtain rfl := dats_bl1 h2
      obtain ⟨bs, rfl, q⟩ := q2
      obtain rfl := z.ofBls
      refine ⟨a, _, _, rfl, rfl, .of (g2.hh.lst (g1.sh _ _ r)), flat_bl b, flat_bls bs, ?_⟩
      have : (bs.map V.bl).countP (fun z => eqV z (.bl b)) = bs.count b := by
        rw [List.countP_map, List.count]
        rfl
      rw [this]
      exact k _ _ H2 S2 q (g1.trans g2) .i
  | _ => exact q1.elim
theorem ed_idxB {o : Expr} (ho : ED X E o wa) (ha : AD X E (e :: es) wl)
    (hbase : attributeBase o "index" X.env (eval o X.env) = eval o X.env := by rfl)
    (hfew : ((backTo pos (starEach (e :: es) X.env)).all (fun x => !x.1) && (backToKw pos (keywordEach [] X.env)).all (fun x => x.1.isSome)
      && decide ((e :: es).length + ([] : List Keyword).length + (if ([] : List Keyword).isEmpty then 0 else 1) < 30)) = true := by rfl)
    (hline : (apos.endLine == pos.line) = true := by rfl) (hst : starEach (e :: es) X.env = (false, eval e X.env) :: starEach es X.env := by rfl) (hplain : (backTo pos (starEach es X.env)).any (·.1) = false := by rfl) :
    ED X E (.Call (.Attribute o "index" apos) (e :: es) [] pos) (wIdxB wa wl) := by
  obtain ⟨t1, p1, s1⟩ := ho.ex
  obtain ⟨t2, p2, s2⟩ := ha.ex
  refine ⟨_, pe_bm PySem.F.plainAttrs_list PySem.F.slot_list_index PySem.F.type_list_index mt_index p1 p2 hbase hfew hline hst hplain, fun x ρ Q hw F σ H S Q' rp ex k => ?_⟩
  refine s1 x ρ _ hw F σ H S _ rp ex fun d u H1 S1 q1 g1 h1 => ?_
  cases d with
  | lst xs =>
    obtain ⟨a, vs, rfl, r, z⟩ := h1
    refine ⟨.inl ⟨rfl, _, .of (g1.sh _ _ r)⟩, ?_⟩
    refine s2 x ρ _ q1 F σ H1 S1 _ (rp.grow g1) (ex.grow g1) fun es us H2 S2 q2 g2 h2 => ?_
    match es, q2, h2 with
    | [.bl b], q2, h2 =>
      obtain rfl := dats_bl1 h2
      obtain ⟨bs, j, rfl, hj, hno, q⟩ := q2
      obtain rfl := z.ofBls
      refine ⟨a, _, _, j, .bl b, rfl, rfl, .of (g2.hh.lst (g1.sh _ _ r)), flat_bl b, flat_bls bs, by rw [List.getElem?_map, hj]; rfl, by show (b == b) = true; simp, fun m z' hm hz => ?_, k _ _ H2 S2 q (g1.trans g2) .i⟩
      rw [List.getElem?_map] at hz
      cases hb : bs[m]? with
      | none => rw [hb] at hz; cases hz
      | some b' =>
        rw [hb] at hz
        cases hz
        show (b' == b) = false
        refine beq_eq_false_iff_ne.mpr fun e => hno m hm (by rw [hb, e])
  | _ => exact q1.elim
/-- try: y = f(..), what comes is new and owned -/
def wTryF (cn : List Str) (i j : Nat) (sp : Spec) (wl : WL) (ws : Addr → Str → WS) : WS := fun q ρ => wl (fun _ => False) ρ fun ds => Ask sp ds (fun n => n ∈ cn ∧ ∀ a, ws a n (q.off i) (ρ.set i (.fz (.ref a)))) (onNew fun xs => q.nx (ρ.set j (.own false (.lst xs)))) ⟨⟩
theorem sd_tryF (i j : Nat) {y : Str} {py : Pos} (G : FnOk X.prog X.w X.K X.mg X.base (L2N.CX X.prog X.w) k f fd ps (spOf X.mg sp)) (hr : Room k X.A) (hg : Gl X x) (hm : X.mg x = some (.ref f)) (hk : PySem.W.keepIn X.K (.ref f) = true) (hb : Binds X.K fd ps [])
    (ha : ∀ (pn : List (Addr × Obj)) (xe : Value → Shared → Prop), AD (X.tr pn xe) E0 (e :: es) wl) (er : ErrT X.K X.mg cn an) (ak : AskT X.K X.mg an) (hH : ("HangError" : Str) ∈ an)
    (hsu : ∀ (a : Addr) (n : Str) (pn : List (Addr × Obj)), n ∈ cn → HotE (X.suite a pn) a n → SDs (X.suite a pn) E0 (b0 :: suite) (ws a n))
    (hgH : Gl X "HangError") (hst : X.stack = X.env :: X.outer := by rfl) (hfr : X.env.frame = some X.env.locals := by rfl) (hN : X.N.Nodup) (hi : X.N[i]? = some nm := by rfl) (hln : X.env.kindOf nm = some .local := by rfl)
    (hdb : (x == ("__debug__" : Str)) = false := by decide) (he : starEach (e :: es) X.env = (false, eval e X.env) :: starEach es X.env := by rfl) (hpl : (backTo pos (starEach es X.env)).any (·.1) = false := by rfl) (hj : X.N[j]? = some y := by rfl) (hy : Loc X.env.scope y := by first | exact Or.inl rfl | exact Or.inr rfl) (hfy : X.fn y = true ∨ X.env.scope.names.lookup y = some .local := by first | exact .inl rfl | exact .inr rfl)
    (hs : swapsWith (.Call (.Name x p) (e :: es) [] pos) (some (.Name y py)) pos1.line X.env = pure false := by rfl) :
    SD X E (.Try [.Assign [.Name y py] (.Call (.Name x p) (e :: es) [] pos) pos1] [.ExceptHandler (some (.Name "HangError" np)) (some nm) (b0 :: suite) pos2] [] [] pos3) (wTryF cn i j sp wl ws) := by
  obtain ⟨HA, m1, m2, m3, m4⟩ := ak _ hH
  refine ⟨_, L2N.ps_try_as (c := .ref HA) (i := i) (ts := canS X.mg cn ws) (tb := fun W => tSeq (tAsg (tCallS (spOf X.mg sp) (L2.WE W) (canA X.mg wl)) (gName j)) tNext) hst hfr hN hi hln ⟨hgH, by decide, .inl m1⟩ takesN (fun W pn xe tk _ => ?_) (fun a oe cls d pn hz hf => ⟨fun pins s σ H D I h => ?_⟩), fun q ρ hw F σ H S D rp o => ?_⟩
  · exact pss_one (ps_set (X := X.tr pn xe) hN hj hy (pe_callS (X := X.tr pn xe) G hr hg hm hk hb (fun σ => L2N.passAt tk σ) (ha pn xe).can hdb he hpl) hs hfy)
  · obtain ⟨n, C, q, ρ, F, S, hn, gC, rfl, rfl, hw, rp, o⟩ := h
    obtain ⟨t, pt, so⟩ := (hsu a n _ hn ⟨(a, oe), C, List.mem_cons_self, rfl, gC, ⟨hz, hf⟩⟩).ex
    exact pt.run pins s σ H D I (so q ρ hw F σ H S D rp o)
  · refine ⟨fun _ => False, ρ, _, F, S, hw, rp, (fun _ _ _ _ z => z.elim), fun ds vs H1 S1 ask g1 h1 => ⟨ds, S1, _, _, ⟨g1.sh, (rp.grow g1).fg.tb⟩, h1, ask, fun r v H2 S2 q2 g2 h2 => ?_, fun n C H2 S2 hx hC g2 => ?_⟩⟩
    · cases r with
      | val d => exact q2.elim
      | newT d => exact q2.elim
      | new c =>
        cases c with
        | dct _ _ => exact q2.elim
        | obj _ _ _ => exact q2.elim
        | lst xs =>
          obtain ⟨p, o', rfl, z0, z1, z2, us, rfl, z3⟩ := h2
          have g := g1.trans g2
          exact o.nx _ _ H2 S2 q2 ((rp.grow g).setOwn z1 z2 ⟨us, rfl, z3⟩ (fg_free rp.fg (g1.freeH z0)) (own_ne rp (g1.freeH z0)))
    · obtain ⟨hn, hx⟩ := hx
      obtain ⟨C', c1, c2, c3, c4, c5⟩ := er n hn
      obtain ⟨D', d1, d2⟩ := c5 _ hH
      rw [m1] at d1
      cases d1
      rw [hC] at c1
      cases c1
      have yes : isSubN n "HangError" = true := by simp [isSubN]
      refine ⟨true, by rw [exm_of m2 m3 m4 d2, yes], fun _ b hb => ?_, fun z => nomatch z⟩
      exact ⟨n, C, q.off i, _, F, S2, hn, hC, rfl, rfl, hx b, (rp.grow (g1.trans g2)).set (d := .ref b) (by unfold Dat; rfl), o.off⟩
end
section
variable [KC] {X : Cx}
theorem dEqH {k : Nat} (hr : L2H.RoomH k X.A) : OpD X (compareOp .Eq) (gEq false) := by
  refine ⟨_, op_eq.or (op_eqD (show X.A.units + 64 < cLine by have := hr.un; omega)), fun d e Q h H S u v Q' sh hd he k => ?_⟩
  unfold gEq at h
  split at h
  · cases hd.b
    cases he.b
    exact .inl ⟨rfl, by rw [dec_bl']; simpa using k _ _ H S h (.refl sh) .b⟩
  · cases hd.i
    cases he.i
    exact .inl ⟨rfl, by simpa using k _ _ H S h (.refl sh) .b⟩
  · cases hd.s
    cases he.s
    exact .inl ⟨rfl, by simpa using k _ _ H S h (.refl sh) .b⟩
  · obtain ⟨⟨n1, n2⟩, h⟩ := h
    refine .inr ⟨_, _, nb_dp 20 _ u n1 (hd.full sh), nb_dp 20 _ v n2 (he.full sh), nb_shaped n1, nb_shaped n2, ?_⟩
    rw [eqv_deq n1 n2]
    simpa using k _ _ H S h (.refl sh) .b
theorem dNeH {k : Nat} (hr : L2H.RoomH k X.A) : OpD X (compareOp .NotEq) (gEq true) := by
  refine ⟨_, op_ne.or (op_neD (show X.A.units + 64 < cLine by have := hr.un; omega)), fun d e Q h H S u v Q' sh hd he k => ?_⟩
  unfold gEq at h
  split at h
  · cases hd.b
    cases he.b
    exact .inl ⟨rfl, by rw [dec_bl']; simpa using k _ _ H S h (.refl sh) .b⟩
  · cases hd.i
    cases he.i
    exact .inl ⟨rfl, by simpa using k _ _ H S h (.refl sh) .b⟩
  · cases hd.s
    cases he.s
    exact .inl ⟨rfl, by simpa using k _ _ H S h (.refl sh) .b⟩
  · obtain ⟨⟨n1, n2⟩, h⟩ := h
    refine .inr ⟨_, _, nb_dp 20 _ u n1 (hd.full sh), nb_dp 20 _ v n2 (he.full sh), nb_shaped n1, nb_shaped n2, ?_⟩
    rw [eqv_deq n1 n2]
    simpa using k _ _ H S h (.refl sh) .b
end
end NL

/-! text.index(letter). -/
namespace NL
open PySem PySem.Spec L2
open PyProof.Rows hiding St
section
variable [KC] {X : Cx} {E : XK} {a b : Expr} {wa wb : WE} {pos apos : Pos}
def wIdxS (wa wb : WE) : WE := fun x ρ Q => wa x ρ fun d => match d with
  | .str s => wb x ρ fun e => match e with
    | .str z => ∃ i rest, Builtin.Str.occurrences s z 0 s.length 1 = i :: rest ∧ Q (.int (i : Nat))
    | _ => False
  | _ => False
theorem ed_idxS (ha : ED X E a wa) (hb : ED X E b wb) (hs : starEach [b] X.env = [(false, eval b X.env)] := by rfl) (hbase : attributeBase a "index" X.env (eval a X.env) = eval a X.env := by rfl) (hline : (apos.endLine == pos.line) = true := by rfl) :
    ED X E (.Call (.Attribute a "index" apos) [b] [] pos) (wIdxS wa wb) := by
  obtain ⟨t1, p1, s1⟩ := ha.ex
  obtain ⟨t2, p2, s2⟩ := hb.ex
  refine ⟨_, pe_m1 PySem.F.slot_str_index PySem.F.type_str_index mt_sindex p1 p2 hs hbase hline, fun x ρ Q hw F σ H S Q' rp ex k => ?_⟩
  refine s1 x ρ _ hw F σ H S _ rp ex fun d u H1 S1 q1 g1 h1 => ?_
  cases d with
  | str s =>
    obtain rfl : u = .str s := by unfold Dat at h1; exact h1
    refine ⟨⟨s, rfl⟩, s2 x ρ _ q1 F σ H1 S1 _ (rp.grow g1) (ex.grow g1) fun e v H2 S2 q2 g2 h2 => ?_⟩
    cases e with
    | str z =>
      obtain rfl : v = .str z := by unfold Dat at h2; exact h2
      obtain ⟨i, rest, ho, q⟩ := q2
      exact ⟨s, z, i, rest, rfl, rfl, ho, k _ _ H2 S2 q (g1.trans g2) .i⟩
    | _ => exact q2.elim
  | _ => exact q1.elim
end
/-- one sign in a text, or a text in a list of texts -/
def gInX (neg : Bool) : D → D → (D → Prop) → Prop := fun d e Q => match e with
  | .str _ => gInS neg d e Q
  | _ => gInT neg d e Q
theorem inX {X : Cx} [KC] {f : Value → Value → Sem Value} {neg : Bool} (h1 : OpD X f (gInS neg)) (h2 : OpD X f (gInT neg)) : OpD X f (gInX neg) := by
  obtain ⟨r1, o1, s1⟩ := h1.ex
  obtain ⟨r2, o2, s2⟩ := h2.ex
  refine ⟨_, o1.or o2, fun d e Q h H S u v Q' sh hd he k => ?_⟩
  unfold gInX at h
  split at h
  · exact .inl (s1 _ _ Q h H S u v Q' sh hd he k)
  · exact .inr (s2 _ _ Q h H S u v Q' sh hd he k)
theorem dInX {X : Cx} [KC] (hK : X.K = KC.K := by rfl) : OpD X (compareOp .In) (gInX false) := inX dInS (dInT hK)
/-- where a letter stands in the alphabet -/
theorem abc_idx {c : Nat} (h1 : 97 ≤ c) (h2 : c ≤ 122) : Builtin.Str.occurrences (Str.ofString "abcdefghijklmnopqrstuvwxyz") (tx [c]) 0 (Str.ofString "abcdefghijklmnopqrstuvwxyz").length 1 = [c - 97] := by
  have key : ∀ i : Fin 26, Builtin.Str.occurrences (Str.ofString "abcdefghijklmnopqrstuvwxyz") (tx [97 + i.1]) 0 (Str.ofString "abcdefghijklmnopqrstuvwxyz").length 1 = [i.1] := by decide +kernel
  have := key ⟨c - 97, by omega⟩
  simp only at this
  rw [show 97 + (c - 97) = c by omega] at this
  exact this
end NL

/-! l.insert(i, x); tuple(l); {k: v}; == of a thing with its like, truths in it. -/
namespace NL
open PySem PySem.Spec L2
open PyProof.Rows hiding St
section
variable [KC] {X : Cx}
def gIns : List D → List D → (List D → Prop) → Prop
  | xs, [.int i, d], Q => xs.length < sizeLine ∧ 0 ≤ i ∧ i < 2 ^ 63 ∧ Q (xs.take i.toNat ++ [d] ++ xs.drop i.toNat)
  | _, _, _ => False
theorem mIns : MutD X "list.insert" gIns := by
  refine ⟨_, mt_insert, fun xs ds Q h H S l us vs Q' sh hl hu hd k => ?_⟩
  unfold gIns at h
  split at h
  · unfold Dats Dats Dats at hd
    obtain ⟨u, _, rfl, hu1, v, _, rfl, hv, rfl⟩ := hd
    unfold Dat at hu1
    subst hu1
    obtain ⟨h1, h2, h3, q⟩ := h
    exact ⟨l, us, _, v, rfl, rfl, hl, by rw [hu.len]; exact h1, h2, h3, k _ _ _ q (((hu.take _).app (.one hv)).app (hu.drop _))⟩
  · exact h.elim
def gTup : List D → (D → Prop) → Prop
  | [.lst xs], Q => Q (.tup xs)
  | _, _ => False
theorem cTup : CalD X (.type "tuple") gTup := by
  refine ⟨_, call_tuple_of, fun ds Q h H S vs Q' sh hd k => ?_⟩
  unfold gTup at h
  split at h
  · obtain ⟨v, rfl, hz⟩ := hd.one
    obtain ⟨a, ws, rfl, r, z⟩ := hz
    refine ⟨a, ws, rfl, .inl ⟨.of r, fun l hl => ?_⟩⟩
    obtain ⟨g, y⟩ := lay_tup sh hl z
    exact k _ _ _ _ h g y
  · exact h.elim
/-- data with truths in it, at most so deep -/
def nbr : Nat → D → Bool
  | 0, _ => false
  | _ + 1, .non => true
  | _ + 1, .bl _ => true
  | _ + 1, .int _ => true
  | _ + 1, .str s => PyData.strOk s
  | n + 1, .lst xs => xs.all (nbr n)
  | n + 1, .tup xs => xs.all (nbr n)
  | _ + 1, _ => false
def toPyr : Nat → D → PyData
  | 0, _ => .none
  | _ + 1, .non => .none
  | _ + 1, .bl b => .bool b
  | _ + 1, .int i => .int i
  | _ + 1, .str s => .str s
  | n + 1, .lst xs => .list (xs.map (toPyr n))
  | n + 1, .tup xs => .tuple (xs.map (toPyr n))
  | _ + 1, _ => .none
theorem nbr_dp {H : Hp} {K : PySem.W.Frag} : ∀ (n : Nat) (d : D) (v : V), nbr n d = true → Dat H d v → Dp K H v (toPyr n d)
  | 0, _, _, h, _ => by simp [nbr] at h
  | n + 1, .non, v, _, q => by unfold Dat at q; subst q; exact .non
  | n + 1, .int i, v, _, q => by unfold Dat at q; subst q; exact .int i
  | n + 1, .str i, v, _, q => by unfold Dat at q; subst q; exact .str i
  | n + 1, .bl b, v, _, q => by unfold Dat at q; subst q; exact .bl b
  | n + 1, .dct _ _, v, h, _ => by simp [nbr] at h
  | n + 1, .dkz _ _, v, h, _ => by simp [nbr] at h
  | n + 1, .obj _ _ _, v, h, _ => by simp [nbr] at h
  | n + 1, .ref _, v, h, _ => by simp [nbr] at h
  | n + 1, .scr _, v, h, _ => by simp [nbr] at h
  | n + 1, .lst xs, v, h, q => by
    unfold Dat at q
    obtain ⟨a, vs, rfl, r, q⟩ := q
    have h' : ∀ x ∈ xs, nbr n x = true := by simpa [nbr] using h
    refine .lst (.of r) ?_
    clear r h
    induction xs generalizing vs with
    | nil => unfold Dats at q; subst q; exact .nil
    | cons x xs ih =>
      unfold Dats at q
      obtain ⟨v, r, rfl, q1, q2⟩ := q
      exact .cons (nbr_dp n x v (h' x (by simp)) q1) (ih r q2 fun y hy => h' y (by simp [hy]))
  | n + 1, .tup xs, v, h, q => by
    unfold Dat at q
    obtain ⟨a, vs, rfl, r, q⟩ := q
    have h' : ∀ x ∈ xs, nbr n x = true := by simpa [nbr] using h
    refine .tup (.of r) ?_
    clear r h
    induction xs generalizing vs with
    | nil => unfold Dats at q; subst q; exact .nil
    | cons x xs ih =>
      unfold Dats at q
      obtain ⟨v, r, rfl, q1, q2⟩ := q
      exact .cons (nbr_dp n x v (h' x (by simp)) q1) (ih r q2 fun y hy => h' y (by simp [hy]))
omit [KC] in
theorem nbr_shape : ∀ (n : Nat) (d : D), nbr n d = true → (toPyr n d).canLay0 = true ∧ (toPyr n d).depth ≤ n
  | 0, _, h => by simp [nbr] at h
  | n + 1, .non, _ => by simp [toPyr, PyData.canLay0, PyData.depth]
  | n + 1, .int i, _ => by simp [toPyr, PyData.canLay0, PyData.depth]
  | n + 1, .bl i, _ => by simp [toPyr, PyData.canLay0, PyData.depth]
  | n + 1, .str i, h => by simpa [toPyr, PyData.canLay0, PyData.depth, nbr] using h
  | n + 1, .dct _ _, h => by simp [nbr] at h
  | n + 1, .dkz _ _, h => by simp [nbr] at h
  | n + 1, .obj _ _ _, h => by simp [nbr] at h
  | n + 1, .ref _, h => by simp [nbr] at h
  | n + 1, .scr _, h => by simp [nbr] at h
  | n + 1, .lst xs, h => by
    have h' : ∀ x ∈ xs, nbr n x = true := by simpa [nbr] using h
    have key : PyData.canLayAll0 (xs.map (toPyr n)) = true ∧ PyData.depthAll (xs.map (toPyr n)) ≤ n := by
      clear h
      induction xs with
      | nil => simp [PyData.canLayAll0, PyData.depthAll]
      | cons x xs ih =>
        obtain ⟨i1, i2⟩ := ih fun y hy => h' y (by simp [hy])
        obtain ⟨j1, j2⟩ := nbr_shape n x (h' x (by simp))
        simp only [List.map_cons, PyData.canLayAll0, PyData.depthAll, i1, j1, Bool.and_self, true_and]
        omega
    simp only [toPyr, PyData.canLay0, PyData.depth, key.1, true_and]
    omega
  | n + 1, .tup xs, h => by
    have h' : ∀ x ∈ xs, nbr n x = true := by simpa [nbr] using h
    have key : PyData.canLayAll0 (xs.map (toPyr n)) = true ∧ PyData.depthAll (xs.map (toPyr n)) ≤ n := by
      clear h
      induction xs with
      | nil => simp [PyData.canLayAll0, PyData.depthAll]
      | cons x xs ih =>
        obtain ⟨i1, i2⟩ := ih fun y hy => h' y (by simp [hy])
        obtain ⟨j1, j2⟩ := nbr_shape n x (h' x (by simp))
        simp only [List.map_cons, PyData.canLayAll0, PyData.depthAll, i1, j1, Bool.and_self, true_and]
        omega
    simp only [toPyr, PyData.canLay0, PyData.depth, key.1, true_and]
    omega
omit [KC] in
theorem nbr_shaped {d : D} (h : nbr 20 d = true) : SeqAt.shaped (toPyr 20 d) = true := by
  obtain ⟨h1, h2⟩ := nbr_shape 20 d h
  unfold SeqAt.shaped
  rw [h1, decide_eq_true (by omega)]
  rfl
/-- a thing and its like -/
def gEqR : D → D → (D → Prop) → Prop := fun d e Q => d = e ∧ nbr 20 d = true ∧ Q (.bl true)
theorem dEqR {k : Nat} (hr : Room k X.A) : OpD X (compareOp .Eq) gEqR := by
  refine ⟨_, op_eqD hr.units, fun d e Q h H S u v Q' sh hd he k => ?_⟩
  obtain ⟨rfl, n1, h⟩ := h
  refine ⟨_, _, nbr_dp 20 _ u n1 (hd.full sh), nbr_dp 20 _ v n1 (he.full sh), nbr_shaped n1, nbr_shaped n1, ?_⟩
  rw [SeqAt.eqv_refl _ (nbr_shape 20 d n1).1]
  simpa using k _ _ H S h (.refl sh) .b
end
section
variable [KC] {X : Cx} {E : XK} {ek ev : Expr} {wk wv : WE} {pos : Pos}
/-- {k: v}, k a text -/
def wDct1 (wk wv : WE) : WE := fun x ρ Q => wk x ρ fun d => wv x ρ fun e => match d with
  | .str s => Q (.dct [.inr s] [e])
  | _ => False
theorem ed_dct1 (hk : ED X E ek wk) (hv : ED X E ev wv) : ED X E (.Dict [some ek] [ev] pos) (wDct1 wk wv) := by
  obtain ⟨tk, pk, sk⟩ := hk.ex
  obtain ⟨tv, pv, sv⟩ := hv.ex
  refine ⟨_, pe_disp (pps_cons pk pv pps_nil) rfl rfl (by simp) (by simp), fun x ρ Q hw F σ H S Q' rp ex k => fun a h0 => ?_⟩
  have g0 : Grow H S H S := .refl rp.fg.sh
  have ga : Grow H S (upd H a (.dK [])) S := g0.lay h0
  refine sk x ρ _ hw F σ _ S _ (rp.grow ga) (ex.grow ga) fun d u H1 S1 q1 g1 h1 => ?_
  refine sv x ρ _ q1 F σ H1 S1 _ (rp.grow (ga.trans g1)) (ex.grow (ga.trans g1)) fun e v H2 S2 q2 g2 h2 => ?_
  have gg := ga.trans (g1.trans g2)
  have hH : H2 a = some (.dK []) := (g1.trans g2).hh.dK upd_same
  cases d with
  | str s =>
    unfold Dat at h1
    subst h1
    refine ⟨hH, [(.inr s, v)], rfl, by simp, ?_⟩
    have hS : S2 a = none := by
      rw [(g1.trans g2).nw a (by rw [upd_same]; intro z; cases z)]
      exact g0.freeS h0
    have hm : mergeK [] [((.inr s : Key), v)] = [(.inr s, v)] := rfl
    rw [hm]
    refine k (.dct [.inr s] [e]) _ _ (upd S2 a (.dK [(.inr s, v)])) q2 ⟨gg.hh.over h0 hH (fun _ z => by cases z) (fun _ z => by cases z), gg.ss.trans (same_upd hS), fun b o e => ?_, fun b hb => ?_⟩ ?_
    · by_cases z : b = a
      · subst z
        rw [upd_same] at e ⊢
        exact e
      · rw [upd_ne z] at e ⊢
        exact gg.sh b o e
    · have ne : b ≠ a := fun z => by subst z; exact hb h0
      rw [upd_ne ne]
      exact gg.nw b hb
    · unfold Dat
      exact ⟨a, [(.inr s, v)], rfl, upd_same, rfl, Dats.one (Dat.mono (same_upd hS) _ _ h2)⟩
  | _ => exact q2.elim
omit [KC] in
theorem loop_id {S : Type} {g : WG} {wb : WS} {q : DEnds} (env : S → Ev) (P : List D → S → Prop) (hnil : ∀ s, P [] s → q.nx (env s))
    (hstep : ∀ a r s (L : Ev → Prop), P (a :: r) s → (∀ s', P r s' → L (env s')) → g a (env s) fun ρ1 => wb ⟨L, q.rt, q.nx, L, q.ex⟩ ρ1) (xs : List D) (s0 : S) (h : P xs s0) : loopL g wb q xs (env s0) := by
  have := loop_ind id env P hnil hstep xs s0 h
  rwa [List.map_id] at this
end
end NL

/-! Dicts whose keys are texts: made, copied, read, written, walked, sorted by their pairs; a def that changes the dict handed in last. -/
namespace NL
open PySem PySem.Spec L2
open PyProof.Rows hiding St
/-! ### what a dict holds -/
def lkK (ks : List Key) (xs : List D) (k : Key) : Option D := ((ks.zip xs).find? fun p => decide (p.1 = k)).map (·.2)
def putKs (ks : List Key) (k : Key) : List Key := if (ks.any fun j => decide (j = k)) = true then ks else ks ++ [k]
def putXs (ks : List Key) (xs : List D) (k : Key) (d : D) : List D := if (ks.any fun j => decide (j = k)) = true then (ks.zip xs).map (fun p => if p.1 = k then d else p.2) else xs ++ [d]
def keyD : Key → D
  | .inl i => .int i
  | .inr s => .str s
def itemsD (ks : List Key) (xs : List D) : List D := (ks.zip xs).map fun p => .tup [keyD p.1, p.2]
variable [KC]
section
variable {S : Hp}
theorem keyD_dat : ∀ (k : Key), Dat S (keyD k) (kV k)
  | .inl _ => .i
  | .inr _ => .s
theorem lkK_dat (k : Key) : ∀ (kvs : List (Key × V)) (xs : List D), Dats S xs (kvs.map (·.2)) →
    (lkK (kvs.map (·.1)) xs k = none ∧ valV kvs k = none) ∨ ∃ d v, lkK (kvs.map (·.1)) xs k = some d ∧ valV kvs k = some v ∧ Dat S d v
  | [], xs, h => .inl ⟨rfl, rfl⟩
  | p :: kvs, [], h => by unfold Dats at h; cases h
  | p :: kvs, x :: xs, h => by
    unfold Dats at h
    obtain ⟨v, r, e, h1, h2⟩ := h
    rw [List.map_cons] at e
    cases e
    by_cases q : p.1 = k
    · exact .inr ⟨x, p.2, by simp [lkK, q], valV_pos q, h1⟩
    · have e1 : lkK (p.1 :: kvs.map (·.1)) (x :: xs) k = lkK (kvs.map (·.1)) xs k := by simp [lkK, q]
      rw [List.map_cons, e1, valV_neg q]
      exact lkK_dat k kvs xs h2
theorem any_map (k : Key) (kvs : List (Key × V)) : (kvs.any fun kv => decide (kv.1 = k)) = ((kvs.map (·.1)).any fun j => decide (j = k)) := by
  rw [List.any_map]
  rfl
theorem repl_dat (k : Key) {d : D} {v : V} (hd : Dat S d v) : ∀ (kvs : List (Key × V)) (xs : List D), Dats S xs (kvs.map (·.2)) →
    Dats S (((kvs.map (·.1)).zip xs).map fun p => if p.1 = k then d else p.2) ((kvs.map fun kv => if kv.1 = k then (kv.1, v) else kv).map (·.2))
  | [], xs, h => by simp; exact .nil
  | p :: kvs, [], h => by unfold Dats at h; cases h
  | p :: kvs, x :: xs, h => by
    unfold Dats at h
    obtain ⟨u, r, e, h1, h2⟩ := h
    rw [List.map_cons] at e
    cases e
    simp only [List.map_cons, List.zip_cons_cons]
    refine .cons ?_ (repl_dat k hd kvs xs h2)
    by_cases q : p.1 = k
    · rw [if_pos q, if_pos q]; exact hd
    · rw [if_neg q, if_neg q]; exact h1
theorem put_dat (k : Key) {d : D} {v : V} {kvs : List (Key × V)} {xs : List D} (hd : Dat S d v) (h : Dats S xs (kvs.map (·.2))) :
    (putK kvs k v).map (·.1) = putKs (kvs.map (·.1)) k ∧ Dats S (putXs (kvs.map (·.1)) xs k d) ((putK kvs k v).map (·.2)) := by
  unfold putK putKs putXs
  rw [any_map]
  by_cases c : ((kvs.map (·.1)).any fun j => decide (j = k)) = true
  · rw [if_pos c, if_pos c, if_pos c]
    refine ⟨?_, repl_dat k hd kvs xs h⟩
    rw [List.map_map]
    refine List.map_congr_left fun p _ => ?_
    show (if p.1 = k then (p.1, v) else p).1 = p.1
    split <;> rfl
  · rw [if_neg c, if_neg c, if_neg c]
    refine ⟨by simp, ?_⟩
    rw [List.map_append]
    exact h.app (.one hd)
end
section
variable {X : Cx} {E : XK} {e a b o f : Expr} {es : List Expr} {sts : List Stmt} {pos p apos cpos : Pos} {x : Str} {w wa wb wo we wk wv : WE} {ws wu : WS} {wl : WL}
/-! ### new dicts -/
abbrev WGd := XS → Ev → (List Key → List D → Prop) → Prop
structure DG (X : Cx) (E : XK) (e : Expr) (w : WGd) : Prop where
  ex : ∃ t, PE X e t ∧ ∀ (x : XS) (ρ : Ev) (Q : List Key → List D → Prop), w x ρ Q → ∀ (F : Fr) (σ : L2.St) (H S : Hp) (Q' : VK), Rep F ρ σ H S → ExOk X.mg E x H S →
    (∀ ks xs p kvs H' S', Q ks xs → Grow H S H' S' → H p = none → S' p = none → H' p = some (.dK kvs) → kvs.map (·.1) = ks → Dats S' xs (kvs.map (·.2)) → Q' (.ref p) H') → t σ H Q'
def wgd0 : WGd := fun _ _ Q => Q [] []
theorem dg_new : DG X E (.Dict [] [] pos) wgd0 := by
  refine ⟨_, pe_dnewK, fun x ρ Q hw F σ H S Q' rp ex k => fun p hp => ?_⟩
  have g0 : Grow H S H S := .refl rp.fg.sh
  exact k [] [] p [] _ S hw (g0.lay hp) hp (g0.freeS hp) upd_same rfl .nil
omit [KC] in
theorem call_dictC : CallR X (.type "dict") (fun xs H Q => ∃ a kvs, xs = [.ref a] ∧ Rd H a (.dK kvs) ∧ ∀ p, H p = none → Q (.ref p) (upd H p (.dK kvs))) := by
  intro pins s σ H xs us Q I r h
  obtain ⟨a, kvs, rfl, ha, q⟩ := h
  obtain rfl := Vals.ref1 r
  exact d_copyOf I ha fun p s' hp I' => ⟨.ref p, _, I', rfl, q p hp⟩
def wgdC (wa : WE) : WGd := fun x ρ Q => wa x ρ fun d => match d with
  | .dkz ks xs => Q ks xs
  | .dct ks xs => Q ks xs
  | _ => False
theorem dg_copy (hg : Gl X "dict") (hm : X.mg "dict" = none) (ha : BD X E a wa) (he : starEach [a] X.env = (false, eval a X.env) :: starEach [] X.env := by rfl) : DG X E (.Call (.Name "dict" p) [a] [] pos) (wgdC wa) := by
  obtain ⟨t, pt, s⟩ := ha.ex
  refine ⟨_, pe_callTy call_dictC hg hm (by decide +kernel) (pa_cons pt pa_nil he) (by decide) (by decide) he (by rfl), fun x ρ Q hw F σ H S Q' rp ex k => ?_⟩
  refine s x ρ _ hw F σ H S _ rp ex fun d v H1 S1 q1 g1 h1 => ?_
  split at q1
  · simp only [BDat, Dat] at h1
    obtain ⟨a, o, kvs, rfl, r, e, z⟩ := h1
    exact ⟨a, kvs, rfl, .inr ⟨o, g1.sh _ _ r⟩, fun p hp => k _ _ p kvs _ S1 q1 (g1.lay hp) (g1.freeH hp) (g1.freeS hp) upd_same e z⟩
  · obtain ⟨a, kvs, rfl, r, e, z⟩ := h1
    exact ⟨a, kvs, rfl, .inl r, fun p hp => k _ _ p kvs _ S1 q1 (g1.lay hp) (g1.freeH hp) (g1.freeS hp) upd_same e z⟩
  · exact q1.elim
def wsSetG (i : Nat) (wl : WGd) : WS := fun q ρ => wl q.ex ρ fun ks xs => q.nx (ρ.set i (.own false (.dct ks xs)))
theorem sd_setG (i : Nat) {wl : WGd} {x : Str} {p : Pos} (hN : X.N.Nodup) (he : DG X E e wl) (hi : X.N[i]? = some x := by rfl) (hx : Loc X.env.scope x := by first | exact Or.inl rfl | exact Or.inr rfl) (hs : swapsWith e (some (.Name x p)) pos.line X.env = pure false := by rfl)
    (hf : X.fn x = true ∨ X.env.scope.names.lookup x = some .local := by first | exact .inl rfl | exact .inr rfl) : SD X E (.Assign [.Name x p] e pos) (wsSetG i wl) := by
  obtain ⟨t, pe, s⟩ := he.ex
  refine ⟨_, ps_set hN hi hx pe hs hf, fun q ρ hw F σ H S D rp o => ?_⟩
  exact s q.ex ρ _ hw F σ H S _ rp (o.exOk rp) fun ks xs p vs H1 S1 q1 g1 h0 h1 h2 h3 hd => o.nx _ _ H1 S1 q1 ((rp.grow g1).setOwn h1 h2 ⟨vs, rfl, h3, hd⟩ (fg_free rp.fg h0) (own_ne rp h0))
/-! ### locked and shared -/
theorem Rep.lck {F : Fr} {ρ : Ev} {σ : L2.St} {H S : Hp} {i : Nat} {ks : List Key} {xs : List D} (r : Rep F ρ σ H S) (h : ρ[i]? = some (.own false (.dct ks xs))) :
    ∃ p kvs, H p = some (.dK kvs) ∧ ∀ od, Rep F (ρ.set i (.fz (.dkz ks xs))) σ (upd H p (.frz od (.dK kvs))) (upd S p (.frz od (.dK kvs))) := by
  obtain ⟨p, o, e1, e2, e3, e4, _, e6⟩ := r.own h
  have h0 := e6 rfl
  obtain ⟨kvs, rfl, c1, c2⟩ := e4
  have hl : i < ρ.length := (List.getElem?_eq_some_iff.mp h).1
  refine ⟨p, kvs, e3, fun od => ?_⟩
  have ss : Same S (upd S p (.frz od (.dK kvs))) := same_upd e2
  have et := ExtT.put (o' := .frz od (.dK kvs)) e3 (fun _ z => by cases z) (fun _ z => by cases z)
  refine ⟨⟨fun a o m ha n => ?_, fun a ha => ?_, r.fg.ss.trans ss, fun a o ha => ?_, fun a ha => ?_, fun P q m h => et.2 P q (r.fg.ft P q m h), ⟨fun q h => et.2 _ _ (r.fg.tb.1 q h), (r.fg.tb.frz (o' := .frz od (.dK kvs)) e3 (fun _ z => by cases z)).2⟩⟩, by simp [r.len], fun j sl e => ?_, fun j k m1 m2 c1 c2 n q1 q2 => ?_⟩
  · rw [upd_ne (fun z => by rw [z, h0] at ha; cases ha)]
    exact r.fg.hh a o m ha n
  · exact et.1 a (r.fg.al a ha)
  · by_cases z : a = p
    · subst z
      rw [upd_same] at ha ⊢
      exact ha
    · rw [upd_ne z] at ha ⊢
      exact r.fg.sh a o ha
  · rw [upd_ne (fun z => ha (by rw [z]; exact h0))]
    exact r.fg.nw a ha
  · by_cases z : i = j
    · subst z
      rw [List.getElem?_set_self hl] at e
      cases e
      refine ⟨.ref p, e1, ?_⟩
      unfold Dat
      exact ⟨p, od, kvs, rfl, upd_same, c1, Dats.mono ss _ _ c2⟩
    · rw [List.getElem?_set_ne z] at e
      have q := r.at' j sl e
      cases sl with
      | un => trivial
      | fz d =>
        obtain ⟨v, f1, f2⟩ := q
        exact ⟨v, f1, Dat.mono ss d v f2⟩
      | own m3 c3 =>
        obtain ⟨p3, o3, f1, f2, f3, f4, f5⟩ := q
        have ne : p3 ≠ p := fun z3 => r.dist i j false m3 _ c3 z h e (by rw [e1, f1, z3])
        exact ⟨p3, o3, f1, by rw [upd_ne ne]; exact f2, by rw [upd_ne ne]; exact f3, f4.mono ss, f5⟩
  · have conv : ∀ (l : Nat) (m4 : Bool) (c4 : Cn), (ρ.set i (.fz (.dkz ks xs)))[l]? = some (.own m4 c4) → ρ[l]? = some (.own m4 c4) := fun l m4 c4 q => by
      by_cases z : i = l
      · subst z
        rw [List.getElem?_set_self hl] at q
        cases q
      · rw [List.getElem?_set_ne z] at q
        exact q
    exact r.dist j k _ _ _ _ n (conv _ _ _ q1) (conv _ _ _ q2)
/-- from here on the slot's own dict is locked and shared -/
def wLck (i : Nat) (w : WS) : WS := fun q ρ => match ρ[i]? with
  | some (.own false (.dct ks xs)) => w q (ρ.set i (.fz (.dkz ks xs)))
  | some (.fz _) => w q ρ
  | _ => False
theorem sds_lck (i : Nat) (h : SDs X E sts ws) : SDs X E sts (wLck i ws) := by
  obtain ⟨t, p, s⟩ := h.ex
  refine ⟨fun D σ H => t D σ H ∨ ∃ d u, H d = some u ∧ Mut (some u) ∧ ∀ od, t D σ (upd H d (.frz od u)), ⟨fun pins s σ H D I hq => ?_⟩, fun q ρ hw F σ H S D rp o => ?_⟩
  · rcases hq with hq | ⟨d, u, hd, mu, hq⟩
    · exact p.run pins s σ H D I hq
    · obtain ⟨od, I1⟩ := I.lock hd mu
      exact p.run pins s σ _ D I1 (hq od)
  · unfold wLck at hw
    split at hw
    · rename_i ks xs hi
      obtain ⟨p, kvs, hp, r⟩ := rp.lck hi
      exact .inr ⟨p, .dK kvs, hp, True.intro, fun od => s q _ hw F σ _ _ D (r od) o⟩
    · exact .inl (s q ρ hw F σ H S D rp o)
    · exact hw.elim
/-- {k: v}, k a text, locked at once -/
def wDctL (wk wv : WE) : WE := fun x ρ Q => wk x ρ fun d => wv x ρ fun e => match d with
  | .str s => Q (.dkz [.inr s] [e])
  | _ => False
omit [KC] in
theorem pe_lck {t : TE} (h : PE X e t) : PE X e (fun σ H Q => t σ H fun v H' => ∃ d u, v = .ref d ∧ H' d = some u ∧ Mut (some u) ∧ ∀ od, Q v (upd H' d (.frz od u))) := by
  refine ⟨fun pins s σ H Q I hq => thn (h.run pins s σ H _ I hq) fun v s1 ⟨x, H1, I1, r, d, u, e1, e2, mu, q⟩ => ?_⟩
  obtain ⟨od, I2⟩ := I1.lock e2 mu
  exact ⟨x, _, I2, r, q od⟩
theorem ed_dctL {ek ev : Expr} (hk : ED X E ek wk) (hv : ED X E ev wv) : ED X E (.Dict [some ek] [ev] pos) (wDctL wk wv) := by
  obtain ⟨tk, pk, sk⟩ := hk.ex
  obtain ⟨tv, pv, sv⟩ := hv.ex
  refine ⟨_, pe_lck (pe_disp (pps_cons pk pv pps_nil) rfl rfl (by simp) (by simp)), fun x ρ Q hw F σ H S Q' rp ex k => fun a h0 => ?_⟩
  have g0 : Grow H S H S := .refl rp.fg.sh
  have ga : Grow H S (upd H a (.dK [])) S := g0.lay h0
  refine sk x ρ _ hw F σ _ S _ (rp.grow ga) (ex.grow ga) fun d u H1 S1 q1 g1 h1 => ?_
  refine sv x ρ _ q1 F σ H1 S1 _ (rp.grow (ga.trans g1)) (ex.grow (ga.trans g1)) fun e v H2 S2 q2 g2 h2 => ?_
  have gg := ga.trans (g1.trans g2)
  have hH : H2 a = some (.dK []) := (g1.trans g2).hh.dK upd_same
  cases d with
  | str s =>
    unfold Dat at h1
    subst h1
    refine ⟨hH, [(.inr s, v)], rfl, by simp, ?_⟩
    have hS : S2 a = none := by
      rw [(g1.trans g2).nw a (by rw [upd_same]; intro z; cases z)]
      exact g0.freeS h0
    have hm : mergeK [] [((.inr s : Key), v)] = [(.inr s, v)] := rfl
    rw [hm]
    refine ⟨a, .dK [(.inr s, v)], rfl, upd_same, True.intro, fun od => ?_⟩
    have e0 : upd (upd H2 a (.dK [(.inr s, v)])) a (.frz od (.dK [(.inr s, v)])) = upd H2 a (.frz od (.dK [(.inr s, v)])) := by
      funext b
      by_cases z : b = a
      · subst z; rw [upd_same, upd_same]
      · rw [upd_ne z, upd_ne z, upd_ne z]
    rw [e0]
    refine k (.dkz [.inr s] [e]) _ _ (upd S2 a (.frz od (.dK [(.inr s, v)]))) q2 ⟨gg.hh.over h0 hH (fun _ z => by cases z) (fun _ z => by cases z), gg.ss.trans (same_upd hS), fun b o e => ?_, fun b hb => ?_⟩ ?_
    · by_cases z : b = a
      · subst z
        rw [upd_same] at e ⊢
        exact e
      · rw [upd_ne z] at e ⊢
        exact gg.sh b o e
    · have ne : b ≠ a := fun z => by subst z; exact hb h0
      rw [upd_ne ne]
      exact gg.nw b hb
    · unfold Dat
      exact ⟨a, od, [(.inr s, v)], rfl, upd_same, rfl, Dats.one (Dat.mono (same_upd hS) _ _ h2)⟩
  | _ => exact q2.elim
/-! ### d.get(k, z), d[k] = e -/
def dctOf : D → Option (List Key × List D)
  | .dct ks xs => some (ks, xs)
  | .dkz ks xs => some (ks, xs)
  | _ => none
def wGetD (wo wk wz : WE) : WE := fun x ρ Q => wo x ρ fun d => match dctOf d with
  | some m => wk x ρ fun k => wz x ρ fun z => match k with
    | .str s => Q ((lkK m.1 m.2 (.inr s)).getD z)
    | _ => False
  | none => False
theorem ed_getD {k : Nat} (hr : Room k X.A) (ho : BD X E o wo) (he : ED X E e wk) (hf : ED X E f wv) (hbase : attributeBase o "get" X.env (eval o X.env) = eval o X.env := by rfl)
    (hfew : ((backTo cpos (starEach [e, f] X.env)).all (fun x => !x.1) && (backToKw cpos (keywordEach [] X.env)).all (fun x => x.1.isSome)
    && decide (([e, f] : List Expr).length + ([] : List Keyword).length + (if ([] : List Keyword).isEmpty then 0 else 1) < 30)) = true := by rfl) (hline : (apos.endLine == cpos.line) = true := by rfl)
    (htr : backTo cpos (starEach [e, f] X.env) = [(false, eval e X.env), (false, eval f X.env)] := by rfl) : ED X E (.Call (.Attribute o "get" apos) [e, f] [] cpos) (wGetD wo wk wv) := by
  obtain ⟨to, po, so⟩ := ho.ex
  obtain ⟨te, pe, se⟩ := he.ex
  obtain ⟨tf, pf, sf⟩ := hf.ex
  refine ⟨_, pe_dget2 (show X.A.units + 1 < cLine by have := hr.units; omega) po pe pf ⟨hbase, hfew, hline, htr⟩, fun x ρ Q hw F σ H S Q' rp ex k => ?_⟩
  refine so x ρ _ hw F σ H S _ rp ex fun d u H1 S1 q1 g1 h1 => ?_
  split at q1
  · rename_i m hm
    have key : ∃ a kvs, u = .ref a ∧ Rd H1 a (.dK kvs) ∧ kvs.map (·.1) = m.1 ∧ Dats S1 m.2 (kvs.map (·.2)) ∧ ∀ H' S', Grow H1 S1 H' S' → Rd H' a (.dK kvs) := by
      cases d with
      | dct ks xs =>
        cases hm
        obtain ⟨a, kvs, rfl, r, z1, z2⟩ := h1
        exact ⟨a, kvs, rfl, .inl r, z1, z2, fun H' S' g => .inl (g.hh.dK r)⟩
      | dkz ks xs =>
        cases hm
        simp only [BDat, Dat] at h1
        obtain ⟨a, o, kvs, rfl, r, z1, z2⟩ := h1
        exact ⟨a, kvs, rfl, .inr ⟨o, g1.sh _ _ r⟩, z1, z2, fun H' S' g => .inr ⟨o, g.sh _ _ (g.ss _ _ r)⟩⟩
      | _ => cases hm
    obtain ⟨a, kvs, rfl, r, z1, z2, z3⟩ := key
    refine ⟨a, rfl, .inl ⟨kvs, r⟩, ?_⟩
    refine se x ρ _ q1 F σ H1 S1 _ (rp.grow g1) (ex.grow g1) fun dk vk H2 S2 q2 g2 h2 => ?_
    refine sf x ρ _ q2 F σ H2 S2 _ (rp.grow (g1.trans g2)) (ex.grow (g1.trans g2)) fun dz vz H3 S3 q3 g3 h3 => ?_
    cases dk with
    | str s =>
      unfold Dat at h2
      subst h2
      refine ⟨_, .inl ⟨kvs, .inr s, z3 H3 S3 (g2.trans g3), rfl, rfl⟩, ?_⟩
      have q3 : Q ((lkK m.1 m.2 (.inr s)).getD dz) := q3
      rw [← z1] at q3
      rcases lkK_dat (.inr s) kvs m.2 z2 with ⟨l1, l2⟩ | ⟨d, v, l1, l2, l3⟩
      · rw [l2]
        rw [l1] at q3
        exact k _ _ H3 S3 q3 ((g1.trans g2).trans g3) h3
      · rw [l2]
        rw [l1] at q3
        exact k _ _ H3 S3 q3 ((g1.trans g2).trans g3) (Dat.mono (g2.trans g3).ss _ _ l3)
    | _ => exact q3.elim
  · exact q1.elim
def wsSetKey (i : Nat) (w wb : WE) : WS := fun q ρ => w q.ex ρ fun d => match ρ[i]? with
  | some (.own m (.dct ks xs)) => wb q.ex ρ fun k => match k with
    | .str s => xs.length < sizeLine ∧ q.nx (ρ.set i (.own m (.dct (putKs ks (.inr s)) (putXs ks xs (.inr s) d))))
    | _ => False
  | _ => False
theorem sd_setKey (i : Nat) {k : Nat} {tpos : Pos} (hr : Room k X.A) (he : ED X E e w) (hb : ED X E b wb) (hN : X.N[i]? = some x := by rfl) (hv : Vis X.env.scope x := by first | exact Or.inl rfl | exact Or.inr (Or.inl rfl) | exact Or.inr (Or.inr rfl)) (hd : (x == ("__debug__" : Str)) = false := by decide) (hcd : (x == ("__classdict__" : Str)) = false := by decide)
    (hs : swapsWith e (some (.Subscript (.Name x p) b tpos)) pos.line X.env = pure false := by rfl) :
    SD X E (.Assign [.Subscript (.Name x p) b tpos] e pos) (wsSetKey i w wb) := by
  obtain ⟨t, pe, s⟩ := he.ex
  obtain ⟨tb, pb, sb⟩ := hb.ex
  refine ⟨_, ps_dput (show X.A.units + 1 < cLine by have := hr.units; omega) (pe_var hN hv hd hcd) pb pe hs, fun q ρ hw F σ H S D rp o => ?_⟩
  refine s q.ex ρ _ hw F σ H S _ rp (o.exOk rp) fun d v H1 S1 q1 g1 h1 => ?_
  split at q1
  · rename_i m ks xs hi
    have rp1 := rp.grow g1
    obtain ⟨l, u, e, z1, z2, ⟨kvs, rfl, z3, z4⟩, _⟩ := rp1.own hi
    refine ⟨.ref l, e, sb q.ex ρ _ q1 F σ H1 S1 _ rp1 (o.exOk rp1) fun k kv H2 S2 q2 g2 h2 => ?_⟩
    cases k with
    | str s =>
      unfold Dat at h2
      subst h2
      obtain ⟨hl, q2⟩ := q2
      have z5 := z4.len
      rw [List.length_map] at z5
      obtain ⟨w1, w2⟩ := put_dat (.inr s) (Dat.mono g2.ss _ _ h1) (Dats.mono g2.ss _ _ z4)
      rw [z3] at w1 w2
      exact ⟨l, _, rfl, .inl ⟨kvs, .inr s, g2.hh.dK z2, rfl, by omega, rfl⟩, o.nx _ _ _ S2 q2 ((rp1.grow g2).put hi e ⟨_, rfl, w1, w2⟩)⟩
    | _ => exact q2.elim
  · exact q1.elim
/-! ### for k, v in d.items() -/
def wItems (wa : WE) : WL := fun x ρ Q => wa x ρ fun d => match d with
  | .dkz ks xs => Q (itemsD ks xs)
  | _ => False
theorem id_items {elts : List Expr} {kk : Nat} {tpos : Pos} (ha : ED X E a wa) (hbase : attributeBase a "items" X.env (eval a X.env) = eval a X.env := by rfl) (hline : (apos.endLine == cpos.line) = true := by rfl) :
    ID X E (.Tuple elts kk tpos) (.Call (.Attribute a "items" apos) [] [] cpos) (wItems wa) := by
  obtain ⟨t, pt, s⟩ := ha.ex
  refine ⟨_, pi_items pt hbase hline, fun x ρ Q hw F σ H S R rp ex k => ?_⟩
  refine s x ρ _ hw F σ H S _ rp ex fun d u H1 S1 q1 g1 h1 => ?_
  cases d with
  | dkz ks xs =>
    unfold Dat at h1
    obtain ⟨a, od, kvs, rfl, r, z1, z2⟩ := h1
    subst z1
    refine ⟨a, od, kvs, rfl, g1.sh _ _ r, k _ _ H1 S1 q1 g1 fun i H S e1 e2 => ?_⟩
    have hs : H a = some (.frz od (.dK kvs)) := e2 _ _ (e1 _ _ r)
    have zl := z2.len
    rw [List.length_map] at zl
    refine ⟨fun d hd => ?_, fun hl => ⟨hs, by unfold itemsD at hl; simp at hl; omega⟩⟩
    unfold itemsD at hd
    rw [List.getElem?_map] at hd
    cases q : ((kvs.map (·.1)).zip xs)[i]? with
    | none => rw [q] at hd; cases hd
    | some pr =>
      rw [q] at hd
      cases hd
      obtain ⟨q1, q2⟩ := List.getElem?_zip_eq_some.mp q
      rw [List.getElem?_map] at q1
      cases q3 : kvs[i]? with
      | none => rw [q3] at q1; cases q1
      | some kv =>
        rw [q3] at q1
        obtain ⟨v, hv, hz⟩ := z2.get q2
        rw [List.getElem?_map, q3] at hv
        cases hv
        refine ⟨⟨hs, (List.getElem?_eq_some_iff.mp q3).1⟩, fun x H' y => ?_⟩
        obtain ⟨T, k', v', y1, rfl, hT, rfl⟩ := y
        rw [q3] at y1
        cases y1
        cases q1
        obtain ⟨g, dd⟩ := lay_tup e2 hT (.cons (keyD_dat _) (.one (Dat.mono e1 _ _ hz)))
        exact ⟨_, g, dd⟩
  | _ => exact q1.elim
/-! ### sorted(d.items()) -/
omit [KC] in
theorem pairs_get {prog : Program} {w : World} {K : Type} [DecidableEq K] {knd : PySem.KeyKind prog w K} : ∀ {es : List DictEntry} {kvs : List (K × Value)}, Pairs knd es kvs → ∀ {j : Nat} {e : DictEntry}, es[j]? = some e → ∃ kv, kvs[j]? = some kv ∧ knd.is kv.1 e.key = true ∧ e.val = kv.2
  | _, _, .nil, j, e, h => by simp at h
  | _, _, .cons h1 h2 r, 0, e, h => by
    simp at h
    subst h
    exact ⟨_, rfl, h1, h2⟩
  | _, _, .cons h1 h2 r, j + 1, e, h => by
    simp at h
    exact pairs_get r h
omit [KC] in
/-- new pairs are tracked -/
theorem tups_laid {pins : List (Addr × Obj)} {σ : L2.St} {H : Hp} {s : Shared} {h' : Heap} {tk : Nat} {kvs : List (Key × V)} {vs : List (Key × Value)} {as : List Addr} (I : Inv X pins σ H s) (kv : KV kvs vs)
    (hk : ∀ b o, s.heap.get? b = some o → h'.get? b = some o) (hl : as.length = vs.length) (ri : as.Pairwise (· < ·)) (ab : ∀ a ∈ as, s.heap.objs.size ≤ a)
    (hG : ∀ (j : Nat) (a : Addr), as[j]? = some a → ∃ key k x, vs[j]? = some (k, x) ∧ keyIs k key = true ∧ h'.get? a = some { cls := .type "tuple", data := .seq #[key, x] }) :
    (∀ b o, H b = some o → LiI.putT H as kvs b = some o) ∧ (∀ t ∈ as, H t = none) ∧ Paired (fun (t : Addr) (q : Key × V) => LiI.putT H as kvs t = some (.tup [kV q.1, q.2])) as kvs ∧ Inv X pins σ (LiI.putT H as kvs) { s with heap := h', toks := tk } := by
  have lk : kvs.length = vs.length := Paired.length kv
  have nd : as.Nodup := List.Pairwise.imp (fun {a b} (h : a < b) => Nat.ne_of_lt h) ri
  have new : ∀ t ∈ as, H t = none := fun t ht => I.hok.fresh (ab t ht)
  have atP := LiI.putT_at as kvs H (by omega) nd
  have off : ∀ b, b ∉ as → LiI.putT H as kvs b = H b := fun b h1 => LiI.putT_off as kvs _ h1
  have low : ∀ b o, s.heap.get? b = some o → b ∉ as := fun b o e z => absurd (Heap.lt_size e) (Nat.not_lt.mpr (ab b z))
  have kp : ∀ b u, H b = some u → LiI.putT H as kvs b = some u := fun b u e => by
    rw [off b (fun z => by rw [new b z] at e; cases e)]
    exact e
  refine ⟨kp, new, atP, ?_⟩
  refine I.call' (ch := []) rfl ⟨fun b o q _ _ _ => hk b o q, fun b o q _ _ _ => ⟨o.slots, hk b o q⟩, fun b o q n _ => ?_, fun b o q _ => ⟨o, hk b o q⟩, fun b xs q => kp b _ q, fun b o u q => kp b _ q, fun b ps q => ⟨#[], by rw [kp b _ q]; simp⟩⟩ (fun b u q => ?_) I.bare fun b z => by simp at z
  · rw [off b (low b o q)]
    exact n
  · by_cases hb : b ∈ as
    · obtain ⟨j, pk, e1, e2, e3⟩ := LiI.paired_ix atP hb
      rw [e3] at q
      cases q
      obtain ⟨key, k, x, f1, f2, f3⟩ := hG j b e1
      obtain ⟨qv, g1, g2, g3⟩ := LiI.paired_get kv e2
      rw [f1] at g1
      cases g1
      have rk : RelV (kV pk.1) key := by
        rw [g2]
        exact relV_key f2
      exact ⟨by show 2 ≤ sizeLine; decide, [key, x], .cons rk (.cons g3 .nil), ⟨_, f3, rfl, _, rfl⟩⟩
    · rw [off b hb] at q
      exact (I.hok b u q).stay (fun d v _ y => hk d v y) (fun d y => kp d _ y) fun d xs y => kp d _ y
def tSortItems (td : TE) : TE := fun σ H Q => td σ H fun x H1 => ∃ a od kvs S xs, x = .ref a ∧ Same S H1 ∧ H1 a = some (.frz od (.dK kvs)) ∧ Dats S xs (kvs.map (·.2)) ∧ kvs.length ≤ sizeLine ∧ Srt1 (itemsD (kvs.map (·.1)) xs) ∧
  ∀ p ws H' S', Grow H1 S H' S' → H1 p = none → S' p = none → H' p = some (.lst ws) → Dats S' (sorD (itemsD (kvs.map (·.1)) xs)) ws → Q (.ref p) H'
/-- the pairs, shared -/
theorem tups_grow {H S : Hp} {xs : List D} : ∀ {as : List Addr} {kvs : List (Key × V)}, Same S H → Dats S xs (kvs.map (·.2)) → as.length = kvs.length → as.Nodup → (∀ t ∈ as, H t = none) →
    ∃ S', Grow H S (LiI.putT H as kvs) S' ∧ (∀ b, b ∉ as → S' b = S b) ∧ Dats S' (itemsD (kvs.map (·.1)) xs) (as.map V.ref) := by
  intro as kvs sh hd hl hn hnew
  refine ⟨LiI.putT S as kvs, ⟨.of fun b o e => ?_, fun b o e => ?_, fun b o e => ?_, fun b hb => ?_⟩, fun b hb => LiI.putT_off as kvs _ hb, ?_⟩
  · rw [LiI.putT_off as kvs _ (fun z => by rw [hnew b z] at e; cases e)]
    exact e
  · rw [LiI.putT_off as kvs _ (fun z => by rw [sh.free (hnew b z)] at e; cases e)]
    exact e
  · by_cases hb : b ∈ as
    · obtain ⟨j, pk, e1, e2, e3⟩ := LiI.paired_ix (LiI.putT_at as kvs S hl hn) hb
      rw [e3] at e
      cases e
      obtain ⟨pk', e4, e5⟩ := LiI.paired_get (LiI.putT_at as kvs H hl hn) e1
      rw [e2] at e4
      cases e4
      exact e5
    · rw [LiI.putT_off as kvs _ hb] at e ⊢
      exact sh b o e
  · rw [LiI.putT_off as kvs _ (fun z => hb (hnew b z))]
  · have ss : Same S (LiI.putT S as kvs) := fun b o e => by
      rw [LiI.putT_off as kvs _ (fun z => by rw [sh.free (hnew b z)] at e; cases e)]
      exact e
    have hd' := Dats.mono ss _ _ hd
    have atS := LiI.putT_at as kvs S hl hn
    generalize LiI.putT S as kvs = T at hd' atS
    clear hnew hn ss hd sh
    induction atS generalizing xs with
    | nil =>
      unfold itemsD
      simp
      exact .nil
    | @cons a p as kvs h1 _ ih =>
      rw [List.map_cons] at hd'
      cases xs with
      | nil => unfold Dats at hd'; cases hd'
      | cons x xs =>
        unfold Dats at hd'
        obtain ⟨v, r, e, d1, d2⟩ := hd'
        cases e
        refine .cons ?_ (ih (by simpa using hl) d2)
        unfold Dat
        exact ⟨a, _, rfl, h1, .cons (keyD_dat _) (.one d1)⟩
theorem pe_sortItems {td : TE} {k : Nat} (hc : X.calm = true) (hr : Room k X.A) (he : PE X a td) (hg : Gl X "sorted") (hm : X.mg "sorted" = none) (hbase : attributeBase a "items" X.env (eval a X.env) = eval a X.env) (hline : (apos.endLine == cpos.line) = true)
    (hs : starEach [.Call (.Attribute a "items" apos) [] [] cpos] X.env = (false, eval (.Call (.Attribute a "items" apos) [] [] cpos) X.env) :: starEach [] X.env) :
    PE X (.Call (.Name "sorted" p) [.Call (.Attribute a "items" apos) [] [] cpos] [] pos) (tSortItems td) := by
  refine ⟨fun pins s σ H Q I hq => ?_⟩
  refine wpAny_Call_Name_kw (ld_blt (u := .builtin "sorted") I hg hm (by decide +kernel) ?_)
  refine PyProof.Rows.callWith_builtin1 ?_ hs rfl
  rw [hs]
  show wpAny _ _ (spliced ((false, eval (.Call (.Attribute a "items" apos) [] [] cpos) X.env) :: backTo pos (starEach [] X.env))) _ _ s
  refine Calls.spliced_cons ?_
  refine wpAny_Call_method (T := "dict") (id := "dict.items") hbase rfl hline F.plainAttrs_dict F.slot_dict_items F.type_dict_items (thn (he.run pins s σ H _ I hq) fun u s1 ⟨x, H1, I1, rx, d, od, kvs, S, xs, ex, sh, hd, dd, hz, hsrt, q⟩ => ?_)
  subst ex
  obtain rfl : u = Value.ref d := rx
  obtain ⟨hs0, hgd, hx, es, ep, vs, hdt, hsz, kv, hm⟩ := I1.frzK hd
  refine ⟨hm.dictOf.typeIs, hm.dictOf.mapOf.noDict, ?_⟩
  show wpAny _ _ (callWith cpos (.builtin "dict.items") [.ref d] [] []) _ X.xe s1
  refine method_meetsIn F.slot_dict_items F.entry_dict_items rfl (PySem.evalArgs_none ⟨rfl, hm.dictOf.typeIs, F.args_dict_items_1 _, _, meets_dict_items (mixKind X.prog X.w) d hs0, ⟨vs, hm.dictOf⟩, ?_⟩)
  refine Calls.spliced_nil ?_
  have I2 : Inv X pins σ H1 { s1 with heap := s1.heap.push { cls := .type "dict_items", data := .fields #[.ref d] } } := I1.kept (t' := s1.toks) fun b ob q => Heap.get?_push_of_some _ q
  have lk : kvs.length = vs.length := Paired.length kv
  refine DT.sortedI (es := es) (ep := ep) (I1.ok.hd hc) ⟨_, Heap.get?_push_size _ rfl, rfl, rfl⟩ ⟨od, Heap.get?_push_of_some _ hgd, hx, hdt⟩ (by omega) fun h' tk as hk hlt hl hG => ?_
  obtain ⟨o', es', ho', hx', hdt', _, hpr, _⟩ := hm
  rw [hgd] at ho'
  cases ho'
  rw [hdt] at hdt'
  cases hdt'
  have al : as.length = kvs.length := by omega
  have nd : as.Nodup := List.Pairwise.imp (fun {a b} (h : a < b) => Nat.ne_of_lt h) hG.rise
  obtain ⟨kp, new, atP, I3⟩ := tups_laid (tk := tk) (as := as) I2 kv hk (by omega) hG.rise (fun a ha => Nat.le_of_lt (hG.above a ha)) fun j a hj => by
    obtain ⟨en, he1, he2⟩ := hG.pairs j a hj
    obtain ⟨kv', e1, e2, e3⟩ := pairs_get hpr (by rw [Array.getElem?_toList]; exact he1)
    exact ⟨en.key, kv'.1, kv'.2, e1, e2, by rw [he2, e3]⟩
  obtain ⟨S', g, offS, dats⟩ := tups_grow (as := as) sh dd al nd new
  obtain ⟨hnb, hal, hso⟩ := hsrt
  have hlen : (itemsD (kvs.map (·.1)) xs).length = as.length := by
    have := dats.len
    rw [List.length_map] at this
    exact this.symm
  generalize hds : itemsD (kvs.map (·.1)) xs = ds at hnb hal hso dats hlen q
  have hob : (h'.push { cls := .type "list", data := .seq (as.map Value.ref).toArray }).get? h'.objs.size = some (seqObj "list" (as.map Value.ref).toArray 0) := Heap.get?_push_size _ rfl
  have rv : Vals (as.map V.ref) (as.map Value.ref) := LiI.vals_refs as
  have rd : PySem.W.EachIs (fun u (d : D) => ∃ bs, Reads h' u (py d) bs) (as.map Value.ref) ds :=
    dpAll_each I3 ds (as.map V.ref) (as.map Value.ref) hnb (fun i d v h1 h2 => by
      obtain ⟨y, hy, hz⟩ := dats.get h1
      rw [h2] at hy
      cases hy
      exact nb_dp 20 d v (hnb d (List.mem_of_getElem? h1)) (Dat.mono g.sh d v hz)) rv (by rw [List.length_map]; exact hlen)
  have e2 : PySem.W.EachIs (fun u (p : V × D) => RelV p.1 u ∧ ∃ bs, Reads h' u (py p.2) bs) (as.map Value.ref) ((as.map V.ref).zip ds) := by
    refine PySem.W.EachIs.of_zip (by simp; omega) fun p hp => ?_
    obtain ⟨i, hi⟩ := List.mem_iff_getElem?.mp hp
    rw [List.getElem?_zip_eq_some] at hi
    obtain ⟨h1, h2⟩ := hi
    rw [List.getElem?_zip_eq_some] at h2
    obtain ⟨u, hu, ru⟩ := rv.get h2.1
    rw [h1] at hu
    cases hu
    exact ⟨ru, rd.zip (p.1, p.2.2) (List.mem_iff_getElem?.mpr ⟨i, by rw [List.getElem?_zip_eq_some]; exact ⟨h1, h2.2⟩⟩)⟩
  have em : ((as.map V.ref).zip ds).map (fun p => py p.2) = ds.map py := by
    rw [show (fun p : V × D => py p.2) = py ∘ Prod.snd from rfl, ← List.map_map, List.map_snd_zip (by rw [List.length_map]; omega)]
  have hm : ∀ p ∈ (as.map V.ref).zip ds, nb 20 p.2 = true := fun p hp => hnb _ (List.of_mem_zip (a := p.1) (b := p.2) hp).2
  have hall : PySem.W.AllAlike (((as.map V.ref).zip ds).map fun p => py p.2) := by
    rw [em]
    intro x hx y hy
    obtain ⟨x, mx, rfl⟩ := List.mem_map.mp hx
    obtain ⟨y, my, rfl⟩ := List.mem_map.mp hy
    exact hal x mx y my
  have er : PySem.W.EachIs (fun u (p : V × D) => ∃ bs, Reads (h'.push { cls := .type "list", data := .seq (as.map Value.ref).toArray }) u (py p.2) bs ∧ h'.objs.size ∉ bs) (as.map Value.ref) ((as.map V.ref).zip ds) := by
    refine e2.mono fun u p hp => ?_
    obtain ⟨_, bs, r⟩ := hp
    refine ⟨bs, Reads.keeps (fun b o e => Heap.get?_push_of_some _ e) r, fun z => ?_⟩
    obtain ⟨o, e⟩ := PyProof.On.reads_mem_get r _ z
    exact Nat.lt_irrefl _ (Heap.lt_size e)
  refine PySem.W.list_sort_data (s := { s1 with heap := h'.push { cls := .type "list", data := .seq (as.map Value.ref).toArray }, toks := tk }) (bs := (as.map V.ref).zip ds) (enc := fun p => py p.2) (R := fun u (p : V × D) => RelV p.1 u) (vs := as.map Value.ref) hob (e2.mono fun _ _ z => z.1) er hall (by rw [em]; exact hso) (by simp; omega) (fun p hp => ?_) fun out ho h1 => ?_
  · have := py_depth (hm p hp)
    have := hr.units
    show X.A.units + 1 + 1 + _ < _
    omega
  · have hv := each_back h1 fun _ _ z => z
    have es' : PySem.W.dataLe false (fun p : V × D => py p.2) = fun a b => dle a.2 b.2 := rfl
    rw [es'] at hv
    obtain ⟨ep', he'⟩ := sortedHeap_at (out := List.toArray out) hob
    have hlen2 : ((((as.map V.ref).zip ds).mergeSort fun a b => dle a.2 b.2).map (·.1)).length ≤ sizeLine := by simp; omega
    have hfp : LiI.putT H1 as kvs h'.objs.size = none := I3.hok.fresh (Nat.le_refl _)
    have I4 := I3.laid (a := h'.objs.size) (o := .lst ((((as.map V.ref).zip ds).mergeSort fun a b => dle a.2 b.2).map (·.1))) (h' := sortedHeap (h'.push { cls := .type "list", data := .seq (as.map Value.ref).toArray }) h'.objs.size (as.map Value.ref) out.toArray) (t' := tk)
      (fun b u e => by
        rw [sortedHeap_old (Nat.ne_of_lt (Heap.lt_size e)) (by rw [Heap.size_push]; exact Nat.lt_succ_of_lt (Heap.lt_size e))]
        exact Heap.get?_push_of_some _ e) (Nat.le_refl _) ⟨hlen2, out, ep', hv, he'⟩
    refine ⟨.ref h'.objs.size, _, I4, rfl, ?_⟩
    refine q _ _ _ S' (g.lay hfp) (g.freeH hfp) (g.freeS hfp) upd_same ?_
    have hperm := List.mergeSort_perm ((as.map V.ref).zip ds) fun a b => dle a.2 b.2
    have e3 := zip_sort (as.map V.ref) ds (by rw [List.length_map]; exact hlen.symm)
    rw [← e3]
    refine dats_perm hperm ?_
    rw [List.map_snd_zip (by rw [List.length_map]; omega), List.map_fst_zip (by rw [List.length_map]; omega)]
    exact dats
def wSortI (wa : WE) : WL := fun x ρ Q => wa x ρ fun d => match d with
  | .dkz ks xs => ks.length ≤ sizeLine ∧ Srt1 (itemsD ks xs) ∧ Q (sorD (itemsD ks xs))
  | _ => False
theorem df_sortItems {k : Nat} (hc : X.calm = true) (hr : Room k X.A) (hg : Gl X "sorted") (hm : X.mg "sorted" = none) (ha : ED X E a wa) (hbase : attributeBase a "items" X.env (eval a X.env) = eval a X.env := by rfl) (hline : (apos.endLine == cpos.line) = true := by rfl)
    (hs : starEach [.Call (.Attribute a "items" apos) [] [] cpos] X.env = (false, eval (.Call (.Attribute a "items" apos) [] [] cpos) X.env) :: starEach [] X.env := by rfl) :
    DF X E (.Call (.Name "sorted" p) [.Call (.Attribute a "items" apos) [] [] cpos] [] pos) (wSortI wa) := by
  obtain ⟨t, pt, s⟩ := ha.ex
  refine ⟨_, pe_sortItems hc hr pt hg hm hbase hline hs, fun x ρ Q hw F σ H S Q' rp ex k => ?_⟩
  refine s x ρ _ hw F σ H S _ rp ex fun d v H1 S1 q1 g1 h1 => ?_
  cases d with
  | dkz ks xs =>
    unfold Dat at h1
    obtain ⟨a, od, kvs, rfl, r, z1, z2⟩ := h1
    subst z1
    obtain ⟨q1, q2, q3⟩ := q1
    exact ⟨a, od, kvs, S1, xs, rfl, g1.sh, g1.sh _ _ r, z2, by simpa using q1, q2, fun p ws H' S' g z0 z1 z2 z3 => k _ p ws H' S' q3 (g1.trans g) (g1.freeH z0) z1 z2 z3⟩
  | _ => exact q1.elim
/-! ### a def that changes the dict handed in last -/
abbrev SpecMD := List Key → List D → List D → (List Key → List D → Prop) → Prop
def spOfMD (sp : SpecMD) : Sp := fun vs H Q _ => ∃ p kvs rest ks xs ds S R, vs = rest ++ [.ref p] ∧ (Same S H ∧ Tbq S H) ∧ S p = none ∧ H p = some (.dK kvs) ∧ kvs.map (·.1) = ks ∧ Dats S xs (kvs.map (·.2)) ∧ Dats S ds rest ∧ sp ks xs ds R ∧
  (∀ ks' xs' H' S' kvs', R ks' xs' → GrowM p H S H' S' → H' p = some (.dK kvs') → kvs'.map (·.1) = ks' → Dats S' xs' (kvs'.map (·.2)) → Q .non H')
def startMD (n : Nat) (ks : List Key) (xs ds : List D) : Ev := ds.map Sl.fz ++ (.own true (.dct ks xs) :: List.replicate (n - (ds.length + 1)) .un)
def endMD (i : Nat) (R : List Key → List D → Prop) (ρ : Ev) : Prop := match (ρ[i]? : Option Sl) with
  | some (.own true (.dct ks xs)) => R ks xs
  | _ => False
def endsMD (i : Nat) (R : List Key → List D → Prop) : DEnds where
  nx := endMD i R
  rt := fun _ _ => False
  ex := fun _ => False
theorem rep_startMD {H S : Hp} {N : List Str} {ks : List Key} {ds xs : List D} {vs : List V} {kvs : List (Key × V)} {p : Addr} (sh : Same S H) (tb : Tbq S H) (hS : S p = none) (hH : H p = some (.dK kvs)) (hk : kvs.map (·.1) = ks) (hx : Dats S xs (kvs.map (·.2))) (h : Dats S ds vs) (hl : ds.length + 1 ≤ N.length) :
    Rep { H0 := H, S0 := S, M := fun a => a = p } (startMD N.length ks xs ds) (L2.start N (vs ++ [.ref p])) H S := by
  have hlen := h.len
  have st : L2.start N (vs ++ [.ref p]) = vs.map some ++ (some (.ref p) :: List.replicate (N.length - (vs.length + 1)) none) := by
    unfold L2.start
    simp [List.append_assoc]
  refine ⟨⟨fun _ _ _ e _ => e, fun _ e => e, .refl _, sh, fun _ _ => rfl, fun _ _ _ h => h, tb⟩, ?_, fun i sl e => ?_, fun i j m m' c c' ne e1 e2 => ?_⟩
  · rw [st]
    unfold startMD
    simp only [List.length_append, List.length_map, List.length_replicate, List.length_cons]
    omega
  · rw [st]
    unfold startMD at e
    rcases Nat.lt_trichotomy i ds.length with hi | hi | hi
    · rw [List.getElem?_append_left (by simpa using hi), List.getElem?_map] at e
      cases q : ds[i]? with
      | none => rw [q] at e; cases e
      | some d =>
        rw [q] at e
        cases e
        obtain ⟨v, hv, hz⟩ := h.get q
        refine ⟨v, ?_, hz⟩
        rw [List.getElem?_append_left (by rw [List.length_map, hlen]; exact hi), List.getElem?_map, hv]
        rfl
    · subst hi
      rw [List.getElem?_append_right (by simp)] at e
      simp only [List.length_map, Nat.sub_self, List.getElem?_cons_zero, Option.some.injEq] at e
      subst e
      refine ⟨p, _, ?_, hS, hH, ⟨kvs, rfl, hk, hx⟩, fun _ => rfl, fun z => by cases z⟩
      rw [List.getElem?_append_right (by rw [List.length_map]; omega), List.length_map, hlen, Nat.sub_self]
      rfl
    · rw [List.getElem?_append_right (by simp; omega)] at e
      obtain ⟨j, hj⟩ : ∃ j, i - (ds.map Sl.fz).length = j + 1 := ⟨i - ds.length - 1, by rw [List.length_map]; omega⟩
      rw [hj, List.getElem?_cons_succ, List.getElem?_replicate] at e
      split at e
      · cases e
        trivial
      · cases e
  · have only : ∀ (i : Nat) (m : Bool) (c : Cn), (startMD N.length ks xs ds)[i]? = some (.own m c) → i = ds.length := fun i m c e => by
      unfold startMD at e
      rcases Nat.lt_trichotomy i ds.length with hi | hi | hi
      · rw [List.getElem?_append_left (by simpa using hi), List.getElem?_map] at e
        cases q : ds[i]? with
        | none => rw [q] at e; cases e
        | some d => rw [q] at e; cases e
      · exact hi
      · rw [List.getElem?_append_right (by simp; omega)] at e
        obtain ⟨j, hj⟩ : ∃ j, i - (ds.map Sl.fz).length = j + 1 := ⟨i - ds.length - 1, by rw [List.length_map]; omega⟩
        rw [hj, List.getElem?_cons_succ, List.getElem?_replicate] at e
        split at e
        · cases e
        · cases e
    exact absurd ((only i m c e1).trans (only j m' c' e2).symm) ne
end
section
variable {P : Program} {w : World} {K : PySem.W.Frag} {mg : Str → Option Value} {base : Heap}
theorem fn_okMD {x qual : Str} {st : Stmt} {f : Addr} {fd : FuncData} {N ps : List Str} {k : Nat} {sp : SpecMD} (F : Fun K x qual st f fd) (S : FnScope N ps (defScope st)) (len : ∀ ks xs ds R, sp ks xs ds R → ds.length + 1 = ps.length)
    (hbody : ∀ (cdv : Value) (A : Around) (outer : List Env) (s : Shared) (H : Hp) (E : XK), Room k (A.deeper (envOfC qual (defScope st) s.heap.objs.size f cdv)) → XOk (cxF P w K mg base N qual (defScope st) f cdv A outer s H E) E →
      ∃ ws, SDs (cxF P w K mg base N qual (defScope st) f cdv A outer s H E) E (defBody st) ws ∧ ∀ ks xs ds R, sp ks xs ds R → ws (endsMD (ps.length - 1) R) (startMD N.length ks xs ds)) :
    FnOk P w K mg base (L2N.CX P w) (k + 1) f fd ps (spOfMD sp) := by
  have hpl : ps.length ≤ N.length := by
    have := congrArg List.length S.pre
    rw [List.length_take] at this
    omega
  refine okN F S (fun vs H Q E h => ?_) (fun cdv A outer s H vs Q E hr h => ?_)
  · obtain ⟨p, kvs, rest, ks, xs, ds, S0, R, rfl, _, _, _, _, _, hd, hs, _⟩ := h
    rw [List.length_append, hd.len]
    exact len ks xs ds R hs
  · obtain ⟨p, kvs, rest, ks, xs, ds, S0, R, rfl, ⟨sh, tb⟩, hS, hH, hk, hx, hd, hs, k1⟩ := h
    obtain ⟨ws, sd, pure⟩ := hbody cdv A outer s H E hr xk_fn
    obtain ⟨t, pt, so⟩ := sd.ex
    have hl : ds.length + 1 ≤ N.length := by rw [len ks xs ds R hs]; exact hpl
    have ei : ps.length - 1 = ds.length := by have := len ks xs ds R hs; omega
    refine ⟨t, pt, so _ _ (pure ks xs ds R hs) _ _ H S0 _ (rep_startMD sh tb hS hH hk hx hd hl) ⟨fun ρ σ H' S' q r => ?_, fun r ρ v σ H' S' q rp pp => q.elim, fun _ _ _ _ z => z.elim, fun _ _ _ _ z => z.elim, fun n C H' S' h1 h2 h3 => h1.elim⟩⟩
    simp only [endsMD, endMD] at q
    split at q
    · rename_i ks' xs' h0
      obtain ⟨p', o, e1, e2, e3, ⟨kvs', rfl, e4, e6⟩, e5, _⟩ := r.own h0
      have : p' = p := e5 rfl
      subst this
      exact k1 ks' xs' H' S' kvs' q ⟨fun a o n e nt => r.fg.hh a o n e nt, r.fg.al, r.fg.ft, r.fg.ss, r.fg.sh, r.fg.nw⟩ e3 e4 e6
    · exact q.elim
end
section
variable {X : Cx} {E : XK} {e a b o f : Expr} {es : List Expr} {pos p p1 mpos : Pos} {x y : Str} {w wa : WE} {wl : WL} {k : Nat} {g : Addr} {fd : FuncData} {ps : List Str} {sp : SpecMD}
/-- arguments, the last one a slot's own thing -/
structure AL (X : Cx) (E : XK) (es : List Expr) (i : Nat) (w : WL) : Prop where
  ex : ∃ t, PA X es t ∧ ∀ (x : XS) (ρ : Ev) (Q : List D → Prop), w x ρ Q → ∀ (F : Fr) (σ : L2.St) (H S : Hp) (q : Addr) (Q' : List V → Hp → Prop), Rep F ρ σ H S → ExOk X.mg E x H S → σ[i]? = some (some (.ref q)) →
    (∀ ds vs H' S', Q ds → Grow H S H' S' → Dats S' ds vs → Q' (vs ++ [.ref q]) H') → t σ H Q'
theorem al_last (i : Nat) (hN : X.N[i]? = some y := by rfl) (hv : Vis X.env.scope y := by first | exact Or.inl rfl | exact Or.inr (Or.inl rfl) | exact Or.inr (Or.inr rfl)) (hd : (y == ("__debug__" : Str)) = false := by decide) (hcd : (y == ("__classdict__" : Str)) = false := by decide)
    (hs : starEach (.Name y p1 :: []) X.env = (false, eval (.Name y p1) X.env) :: starEach [] X.env := by rfl) : AL X E [.Name y p1] i wNil := by
  refine ⟨_, pa_cons (pe_var hN hv hd hcd) pa_nil hs, fun x ρ Q hw F σ H S q Q' rp ex e k => ⟨.ref q, e, ?_⟩⟩
  exact k [] [] H S hw (.refl rp.sh) .nil
theorem al_cons {i : Nat} (ha : ED X E a wa) (hr : AL X E es i wl) (hs : starEach (a :: es) X.env = (false, eval a X.env) :: starEach es X.env := by rfl) : AL X E (a :: es) i (wCons wa wl) := by
  obtain ⟨t, p, s⟩ := ha.ex
  obtain ⟨t', p', s'⟩ := hr.ex
  refine ⟨_, pa_cons p p' hs, fun x ρ Q hw F σ H S q Q' rp ex e k => ?_⟩
  refine s x ρ _ hw F σ H S _ rp ex fun d u H1 S1 q1 g1 h1 => ?_
  refine s' x ρ _ q1 F σ H1 S1 q _ (rp.grow g1) (ex.grow g1) e fun ds vs H2 S2 q2 g2 h2 => ?_
  exact k (d :: ds) (u :: vs) H2 S2 q2 (g1.trans g2) (.cons (Dat.mono g2.ss _ _ h1) h2)
def AskMD (sp : SpecMD) (ks : List Key) (xs ds : List D) (K : List Key → List D → Prop) (_ : Tg K) : Prop := sp ks xs ds K
def wsCallMD (i : Nat) (sp : SpecMD) (wl : WL) : WS := fun q ρ => match ρ[i]? with
  | some (.own m (.dct ks xs)) => wl q.ex ρ fun ds => AskMD sp ks xs ds (fun ks' xs' => q.nx (ρ.set i (.own m (.dct ks' xs')))) ⟨⟩
  | _ => False
/-- f(.., d) as a statement, d a slot's own dict that f changes -/
theorem sd_callMD (i : Nat) (G : FnOk X.prog X.w X.K X.mg X.base (L2N.CX X.prog X.w) k g fd ps (spOfMD sp)) (hr : Room k X.A) (xk : XOk X E) (hg : Gl X x) (hm : X.mg x = some (.ref g)) (hk : PySem.W.keepIn X.K (.ref g) = true) (hb : Binds X.K fd ps [])
    (ha : AL X E (e :: es) i wl) (hdb : (x == ("__debug__" : Str)) = false := by decide) (he : starEach (e :: es) X.env = (false, eval e X.env) :: starEach es X.env := by rfl) (hpl : (backTo mpos (starEach es X.env)).any (·.1) = false := by rfl)
    (hs : swapsWith (.Call (.Name x p) (e :: es) [] mpos) none pos.line X.env = pure false := by rfl) :
    SD X E (.Expr (.Call (.Name x p) (e :: es) [] mpos) pos) (wsCallMD i sp wl) := by
  obtain ⟨t, pt, s⟩ := ha.ex
  have px : Passes (L2N.CX X.prog X.w) X E := xk.pass
  refine ⟨_, ps_expr (pe_call G hr hg hm hk hb .nil px pt hdb he hpl) hs, fun q ρ hw F σ H S D rp o => ?_⟩
  unfold wsCallMD at hw
  split at hw
  · rename_i m ks xs hi
    obtain ⟨l, u, e, h1, h2, ⟨kvs, rfl, h3, h4⟩, _⟩ := rp.own hi
    refine s q.ex ρ _ hw F σ H S l _ rp (o.exOk rp) e fun ds vs H1 S1 q1 g1 hd => ?_
    have rp1 := rp.grow g1
    refine ⟨l, kvs, vs, ks, xs, ds, S1, _, by rw [List.append_nil], ⟨g1.sh, rp1.fg.tb⟩, by rw [g1.nw l (by rw [h2]; intro z; cases z)]; exact h1, g1.hh.dK h2, h3, Dats.mono g1.ss _ _ h4, hd, q1, fun ks' xs' H2 S2 kvs' q2 g2 z1 z2 z3 => ?_⟩
    exact o.nx _ _ H2 S2 q2 (rp1.putM hi e g2 z1 ⟨kvs', rfl, z2, z3⟩)
  · exact hw.elim
end
end NL

/-! Dicts by whole numbers: d.get(k, z), d[k] = e, k in d. -/
namespace NL
open PySem PySem.Spec L2
open PyProof.Rows hiding St
variable [KC]
section
variable {S : Hp}
variable {X : Cx} {E : XK} {e a b o f : Expr} {es : List Expr} {sts : List Stmt} {pos p apos cpos : Pos} {x : Str} {w wa wb wo we wk wv : WE} {ws wu : WS} {wl : WL}
variable {P : Program} {w : World} {K : PySem.W.Frag} {mg : Str → Option Value} {base : Heap}
variable {X : Cx} {E : XK} {e a b o f : Expr} {es : List Expr} {pos p p1 mpos : Pos} {x y : Str} {w wa : WE} {wl : WL} {k : Nat} {g : Addr} {fd : FuncData} {ps : List Str} {sp : SpecMD}
def wGetDI (wo wk wz : WE) : WE := fun x ρ Q => wo x ρ fun d => match dctOf d with
  | some m => wk x ρ fun k => wz x ρ fun z => match k with
    | .int s => Q ((lkK m.1 m.2 (.inl s)).getD z)
    | _ => False
  | none => False
theorem ed_getDI {k : Nat} (hr : Room k X.A) (ho : BD X E o wo) (he : ED X E e wk) (hf : ED X E f wv) (hbase : attributeBase o "get" X.env (eval o X.env) = eval o X.env := by rfl)
    (hfew : ((backTo cpos (starEach [e, f] X.env)).all (fun x => !x.1) && (backToKw cpos (keywordEach [] X.env)).all (fun x => x.1.isSome)
    && decide (([e, f] : List Expr).length + ([] : List Keyword).length + (if ([] : List Keyword).isEmpty then 0 else 1) < 30)) = true := by rfl) (hline : (apos.endLine == cpos.line) = true := by rfl)
    (htr : backTo cpos (starEach [e, f] X.env) = [(false, eval e X.env), (false, eval f X.env)] := by rfl) : ED X E (.Call (.Attribute o "get" apos) [e, f] [] cpos) (wGetDI wo wk wv) := by
  obtain ⟨to, po, so⟩ := ho.ex
  obtain ⟨te, pe, se⟩ := he.ex
  obtain ⟨tf, pf, sf⟩ := hf.ex
  refine ⟨_, pe_dget2 (show X.A.units + 1 < cLine by have := hr.units; omega) po pe pf ⟨hbase, hfew, hline, htr⟩, fun x ρ Q hw F σ H S Q' rp ex k => ?_⟩
  refine so x ρ _ hw F σ H S _ rp ex fun d u H1 S1 q1 g1 h1 => ?_
  split at q1
  · rename_i m hm
    have key : ∃ a kvs, u = .ref a ∧ Rd H1 a (.dK kvs) ∧ kvs.map (·.1) = m.1 ∧ Dats S1 m.2 (kvs.map (·.2)) ∧ ∀ H' S', Grow H1 S1 H' S' → Rd H' a (.dK kvs) := by
      cases d with
      | dct ks xs =>
        cases hm
        obtain ⟨a, kvs, rfl, r, z1, z2⟩ := h1
        exact ⟨a, kvs, rfl, .inl r, z1, z2, fun H' S' g => .inl (g.hh.dK r)⟩
      | dkz ks xs =>
        cases hm
        simp only [BDat, Dat] at h1
        obtain ⟨a, o, kvs, rfl, r, z1, z2⟩ := h1
        exact ⟨a, kvs, rfl, .inr ⟨o, g1.sh _ _ r⟩, z1, z2, fun H' S' g => .inr ⟨o, g.sh _ _ (g.ss _ _ r)⟩⟩
      | _ => cases hm
    obtain ⟨a, kvs, rfl, r, z1, z2, z3⟩ := key
    refine ⟨a, rfl, .inl ⟨kvs, r⟩, ?_⟩
    refine se x ρ _ q1 F σ H1 S1 _ (rp.grow g1) (ex.grow g1) fun dk vk H2 S2 q2 g2 h2 => ?_
    refine sf x ρ _ q2 F σ H2 S2 _ (rp.grow (g1.trans g2)) (ex.grow (g1.trans g2)) fun dz vz H3 S3 q3 g3 h3 => ?_
    cases dk with
    | int s =>
      unfold Dat at h2
      subst h2
      refine ⟨_, .inl ⟨kvs, .inl s, z3 H3 S3 (g2.trans g3), rfl, rfl⟩, ?_⟩
      have q3 : Q ((lkK m.1 m.2 (.inl s)).getD dz) := q3
      rw [← z1] at q3
      rcases lkK_dat (.inl s) kvs m.2 z2 with ⟨l1, l2⟩ | ⟨d, v, l1, l2, l3⟩
      · rw [l2]
        rw [l1] at q3
        exact k _ _ H3 S3 q3 ((g1.trans g2).trans g3) h3
      · rw [l2]
        rw [l1] at q3
        exact k _ _ H3 S3 q3 ((g1.trans g2).trans g3) (Dat.mono (g2.trans g3).ss _ _ l3)
    | _ => exact q3.elim
  · exact q1.elim
def wsSetKeyI (i : Nat) (w wb : WE) : WS := fun q ρ => w q.ex ρ fun d => match ρ[i]? with
  | some (.own m (.dct ks xs)) => wb q.ex ρ fun k => match k with
    | .int s => xs.length < sizeLine ∧ q.nx (ρ.set i (.own m (.dct (putKs ks (.inl s)) (putXs ks xs (.inl s) d))))
    | _ => False
  | _ => False
theorem sd_setKeyI (i : Nat) {k : Nat} {tpos : Pos} (hr : Room k X.A) (he : ED X E e w) (hb : ED X E b wb) (hN : X.N[i]? = some x := by rfl) (hv : Vis X.env.scope x := by first | exact Or.inl rfl | exact Or.inr (Or.inl rfl) | exact Or.inr (Or.inr rfl)) (hd : (x == ("__debug__" : Str)) = false := by decide) (hcd : (x == ("__classdict__" : Str)) = false := by decide)
    (hs : swapsWith e (some (.Subscript (.Name x p) b tpos)) pos.line X.env = pure false := by rfl) :
    SD X E (.Assign [.Subscript (.Name x p) b tpos] e pos) (wsSetKeyI i w wb) := by
  obtain ⟨t, pe, s⟩ := he.ex
  obtain ⟨tb, pb, sb⟩ := hb.ex
  refine ⟨_, ps_dput (show X.A.units + 1 < cLine by have := hr.units; omega) (pe_var hN hv hd hcd) pb pe hs, fun q ρ hw F σ H S D rp o => ?_⟩
  refine s q.ex ρ _ hw F σ H S _ rp (o.exOk rp) fun d v H1 S1 q1 g1 h1 => ?_
  split at q1
  · rename_i m ks xs hi
    have rp1 := rp.grow g1
    obtain ⟨l, u, e, z1, z2, ⟨kvs, rfl, z3, z4⟩, _⟩ := rp1.own hi
    refine ⟨.ref l, e, sb q.ex ρ _ q1 F σ H1 S1 _ rp1 (o.exOk rp1) fun k kv H2 S2 q2 g2 h2 => ?_⟩
    cases k with
    | int s =>
      unfold Dat at h2
      subst h2
      obtain ⟨hl, q2⟩ := q2
      have z5 := z4.len
      rw [List.length_map] at z5
      obtain ⟨w1, w2⟩ := put_dat (.inl s) (Dat.mono g2.ss _ _ h1) (Dats.mono g2.ss _ _ z4)
      rw [z3] at w1 w2
      exact ⟨l, _, rfl, .inl ⟨kvs, .inl s, g2.hh.dK z2, rfl, by omega, rfl⟩, o.nx _ _ _ S2 q2 ((rp1.grow g2).put hi e ⟨_, rfl, w1, w2⟩)⟩
    | _ => exact q2.elim
  · exact q1.elim
def gInDI : D → D → (D → Prop) → Prop
  | .int k, .dct ks xs, Q => Q (.bl (lkK ks xs (.inl k)).isSome)
  | _, _, _ => False
theorem op_inDI (hu : X.A.units + 1 < cLine) : OpR X (compareOp .In) (fun x y H Q => ∃ a o, y = .ref a ∧ DGet H a x o ∧ Q (.bl o.isSome) H) := by
  rintro pins s σ H x y v u Q I rx ry ⟨a, o, rfl, g, q⟩
  obtain rfl : u = Value.ref a := ry
  exact d_in hu I g rx fun s' I' => ⟨.bl o.isSome, H, I', rfl, q⟩
theorem dInDI {k : Nat} (hr : Room k X.A) : OpD X (compareOp .In) gInDI := by
  refine ⟨_, op_inDI (show X.A.units + 1 < cLine by have := hr.units; omega), fun d e Q h H S u v Q' sh hd he k => ?_⟩
  unfold gInDI at h
  split at h
  · rename_i z ks xs
    obtain ⟨a, kvs, rfl, r, z1, z2⟩ := he
    have hz : u = .int z := hd
    subst hz
    subst z1
    refine ⟨a, _, rfl, .inl ⟨kvs, .inl z, .inl r, rfl, rfl⟩, ?_⟩
    rcases lkK_dat (.inl z) kvs xs z2 with ⟨l1, l2⟩ | ⟨d, w, l1, l2, l3⟩
    · rw [l1] at h
      rw [l2]
      exact k _ _ H S h (.refl sh) .b
    · rw [l1] at h
      rw [l2]
      exact k _ _ H S h (.refl sh) .b
  · exact h.elim
end
end NL

/-! Objects of own classes: attributes, methods, making. -/
namespace NL
open PySem PySem.Spec L2
open PyProof.Rows hiding St
variable [KC]

/-! ### the content of an object by names -/
def putN (f : Str) : List Str → List Str
  | [] => [f]
  | g :: r => if g = f then g :: r else g :: putN f r
theorem names_put (f : Str) (y : V) : ∀ kvs : List (Str × V), (putF f y kvs).map (·.1) = putN f (kvs.map (·.1))
  | [] => rfl
  | (g, v) :: r => by
    simp only [putF, putN, List.map_cons]
    by_cases h : g = f
    · rw [if_pos h, if_pos h]
      simp [h]
    · rw [if_neg h, if_neg h, List.map_cons, names_put f y r]
omit [KC] in
theorem putN_new {f : Str} : ∀ {fs : List Str}, f ∉ fs → putN f fs = fs ++ [f]
  | [], _ => rfl
  | g :: r, h => by
    simp only [List.mem_cons, not_or] at h
    show (if g = f then _ else _) = _
    rw [if_neg (fun z => h.1 z.symm), putN_new h.2]
    rfl
omit [KC] in
theorem putN_old {f : Str} : ∀ {fs : List Str}, f ∈ fs → putN f fs = fs
  | [], h => by cases h
  | g :: r, h => by
    show (if g = f then _ else _) = _
    by_cases z : g = f
    · rw [if_pos z]
    · rw [if_neg z, putN_old ((List.mem_cons.mp h).resolve_left fun y => z y.symm)]
theorem vals_new {S : Hp} {f : Str} {y : V} {d : D} (hy : Dat S d y) : ∀ {kvs : List (Str × V)} {xs : List D}, f ∉ kvs.map (·.1) → Dats S xs (kvs.map (·.2)) → Dats S (xs ++ [d]) ((putF f y kvs).map (·.2))
  | [], xs, _, h => by
    have := h.len
    cases xs with
    | nil => exact .one hy
    | cons _ _ => cases this
  | (g, v) :: r, xs, n, h => by
    cases xs with
    | nil => have := h.len; cases this
    | cons x xs =>
      simp only [List.map_cons, List.mem_cons, not_or] at n
      unfold Dats at h
      obtain ⟨v', r', e, h1, h2⟩ := h
      cases e
      show Dats S (x :: (xs ++ [d])) (List.map _ (if g = f then _ else _))
      rw [if_neg (fun z => n.1 z.symm)]
      exact .cons h1 (vals_new hy n.2 h2)
theorem vals_old {S : Hp} {f : Str} {y : V} {d : D} (hy : Dat S d y) : ∀ {kvs : List (Str × V)} {xs : List D} {k : Nat}, (kvs.map (·.1))[k]? = some f → (kvs.map (·.1)).Nodup → Dats S xs (kvs.map (·.2)) → Dats S (xs.set k d) ((putF f y kvs).map (·.2))
  | [], xs, k, e, _, h => by cases e
  | (g, v) :: r, xs, k, e, n, h => by
    cases xs with
    | nil => have := h.len; cases this
    | cons x xs =>
      unfold Dats at h
      obtain ⟨v', r', e', h1, h2⟩ := h
      cases e'
      simp only [List.map_cons, List.nodup_cons] at n
      cases k with
      | zero =>
        have z : g = f := by simpa using e
        show Dats S (d :: xs) (List.map _ (if g = f then _ else _))
        rw [if_pos z]
        exact .cons hy h2
      | succ k =>
        have e2 : (r.map (·.1))[k]? = some f := by simpa using e
        have z : g ≠ f := fun z => n.1 (by rw [z]; exact List.mem_of_getElem? e2)
        show Dats S (x :: xs.set k d) (List.map _ (if g = f then _ else _))
        rw [if_neg z]
        exact .cons h1 (vals_old hy e2 n.2 h2)
theorem look_at {S : Hp} {f : Str} : ∀ {kvs : List (Str × V)} {xs : List D} {k : Nat} {d : D}, (kvs.map (·.1))[k]? = some f → (kvs.map (·.1)).Nodup → Dats S xs (kvs.map (·.2)) → xs[k]? = some d → ∃ v, kvs.lookup f = some v ∧ Dat S d v
  | [], xs, k, d, e, _, _, _ => by cases e
  | (g, v) :: r, xs, k, d, e, n, h, q => by
    cases xs with
    | nil => have := h.len; cases this
    | cons x xs =>
      unfold Dats at h
      obtain ⟨v', r', e', h1, h2⟩ := h
      cases e'
      simp only [List.map_cons, List.nodup_cons] at n
      cases k with
      | zero =>
        have z : g = f := by simpa using e
        have y : x = d := by simpa using q
        subst z y
        exact ⟨v, by simp [List.lookup], h1⟩
      | succ k =>
        have e2 : (r.map (·.1))[k]? = some f := by simpa using e
        have z : g ≠ f := fun z => n.1 (by rw [z]; exact List.mem_of_getElem? e2)
        obtain ⟨u, hu, du⟩ := look_at e2 n.2 h2 (by simpa using q)
        refine ⟨u, ?_, du⟩
        have : (f == g) = false := beq_eq_false_iff_ne.mpr fun y => z y.symm
        simp only [List.lookup, this]
        exact hu
omit [KC] in
theorem look_no {f : Str} : ∀ {kvs : List (Str × V)}, f ∉ kvs.map (·.1) → kvs.lookup f = none
  | [], _ => rfl
  | (g, v) :: r, n => by
    simp only [List.map_cons, List.mem_cons, not_or] at n
    have : (f == g) = false := beq_eq_false_iff_ne.mpr n.1
    simp only [List.lookup, this]
    exact look_no n.2
/-- it is an object of this class with these attributes -/
def isO (c : Str) (fs : List Str) (c' : Str) (fs' : List Str) : Prop := c' = c ∧ fs' = fs
omit [KC] in
theorem isO_rfl {c : Str} {fs : List Str} : isO c fs c fs = True := eq_true ⟨rfl, rfl⟩

section
variable {X : Cx} {E : XK} {e o : Expr} {es : List Expr} {pos apos mpos p p1 : Pos} {w wa : WE} {wl : WL} {c m f x y : Str} {fs : List Str} {i k : Nat}
/-- e.f, the attribute at k of an object of the class c -/
def wFld (c : Str) (fs : List Str) (k : Nat) (wa : WE) : WE := fun x ρ Q => wa x ρ fun d => match d with
  | .obj c' fs' xs => isO c fs c' fs' ∧ match xs[k]? with
    | some d => Q d
    | none => False
  | _ => False
theorem ed_fld (c : Str) (fs : List Str) (k : Nat) (cl : Cls X.K (KC.ca c)) (na : NoAttr X.K (KC.ca c) f) (ha : BD X E e wa) (hk : fs[k]? = some f := by rfl) (hn : fs.Nodup := by decide +kernel) (hb : attributeBase e f X.env (eval e X.env) = eval e X.env := by rfl) :
    ED X E (.Attribute e f pos) (wFld c fs k wa) := by
  obtain ⟨t, pt, s⟩ := ha.ex
  refine ⟨_, pe_fld pt hb, fun x ρ Q hw F σ H S Q' rp ex k => ?_⟩
  refine s x ρ _ hw F σ H S _ rp ex fun d u H1 S1 q1 g1 h1 => ?_
  split at q1
  · obtain ⟨⟨rfl, rfl⟩, q1⟩ := q1
    split at q1
    · rename_i d hd
      obtain ⟨a, dx, kvs, rfl, r, e1, z⟩ := h1
      obtain ⟨v, hv, dv⟩ := look_at (f := f) (by rw [e1]; exact hk) (by rw [e1]; exact hn) z hd
      exact ⟨a, _, dx, kvs, v, rfl, r, cl, na, hv, k d v H1 S1 q1 g1 dv⟩
    · exact q1.elim
  · exact q1.elim
/-- self.f = e, an attribute that stands -/
def wsSetFld (i : Nat) (c : Str) (fs : List Str) (k : Nat) (w : WE) : WS := fun q ρ => w q.ex ρ fun d => match ρ[i]? with
  | some (.own m (.obj c' fs' xs)) => isO c fs c' fs' ∧ q.nx (ρ.set i (.own m (.obj c fs (xs.set k d))))
  | _ => False
theorem sd_setFld (i : Nat) (c : Str) (fs : List Str) (k : Nat) (cl : Cls X.K (KC.ca c)) (na : NoAttr X.K (KC.ca c) f) (he : ED X E e w) (hk : fs[k]? = some f := by rfl) (hn : fs.Nodup := by decide +kernel) (hlen : fs.length < 1000 := by decide)
    (hN : X.N[i]? = some y := by rfl) (hv : Vis X.env.scope y := by first | exact Or.inl rfl | exact Or.inr (Or.inl rfl) | exact Or.inr (Or.inr rfl)) (hd : (y == ("__debug__" : Str)) = false := by decide) (hcd : (y == ("__classdict__" : Str)) = false := by decide)
    (hs : swapsWith e (some (.Attribute (.Name y p) f apos)) pos.line X.env = pure false := by rfl) : SD X E (.Assign [.Attribute (.Name y p) f apos] e pos) (wsSetFld i c fs k w) := by
  obtain ⟨t, pe, s⟩ := he.ex
  refine ⟨_, ps_fld (pe_var hN hv hd hcd) pe hs, fun q ρ hw F σ H S D rp o => ?_⟩
  refine s q.ex ρ _ hw F σ H S _ rp (o.exOk rp) fun d v H1 S1 q1 g1 h1 => ?_
  split at q1
  · rename_i m c' fs' xs hi
    obtain ⟨⟨rfl, rfl⟩, q1⟩ := q1
    have rp1 := rp.grow g1
    obtain ⟨l, u, e1, z1, z2, ⟨dx, kvs, rfl, e2, z3⟩, _⟩ := rp1.own hi
    refine ⟨_, e1, l, _, dx, kvs, rfl, z2, cl, na, by rw [← List.length_map (f := (·.1)), e2]; exact hlen, o.nx _ _ _ S1 q1 (rp1.put hi e1 ⟨dx, _, rfl, ?_, vals_old h1 (by rw [e2]; exact hk) (by rw [e2]; exact hn) z3⟩)⟩
    rw [names_put, putN_old (by rw [e2]; exact List.mem_of_getElem? hk), e2]
  · exact q1.elim
/-- self.f = e, a new attribute -/
def wsAddFld (i : Nat) (c : Str) (fs : List Str) (f : Str) (w : WE) : WS := fun q ρ => w q.ex ρ fun d => match ρ[i]? with
  | some (.own m (.obj c' fs' xs)) => isO c fs c' fs' ∧ q.nx (ρ.set i (.own m (.obj c (fs ++ [f]) (xs ++ [d]))))
  | _ => False
theorem sd_addFld (i : Nat) (c : Str) (fs : List Str) (f : Str) (cl : Cls X.K (KC.ca c)) (na : NoAttr X.K (KC.ca c) f) (he : ED X E e w) (hn : f ∉ fs := by decide +kernel) (hlen : fs.length < 1000 := by decide)
    (hN : X.N[i]? = some y := by rfl) (hv : Vis X.env.scope y := by first | exact Or.inl rfl | exact Or.inr (Or.inl rfl) | exact Or.inr (Or.inr rfl)) (hd : (y == ("__debug__" : Str)) = false := by decide) (hcd : (y == ("__classdict__" : Str)) = false := by decide)
    (hs : swapsWith e (some (.Attribute (.Name y p) f apos)) pos.line X.env = pure false := by rfl) : SD X E (.Assign [.Attribute (.Name y p) f apos] e pos) (wsAddFld i c fs f w) := by
  obtain ⟨t, pe, s⟩ := he.ex
  refine ⟨_, ps_fld (pe_var hN hv hd hcd) pe hs, fun q ρ hw F σ H S D rp o => ?_⟩
  refine s q.ex ρ _ hw F σ H S _ rp (o.exOk rp) fun d v H1 S1 q1 g1 h1 => ?_
  split at q1
  · rename_i m c' fs' xs hi
    obtain ⟨⟨rfl, rfl⟩, q1⟩ := q1
    have rp1 := rp.grow g1
    obtain ⟨l, u, e1, z1, z2, ⟨dx, kvs, rfl, e2, z3⟩, _⟩ := rp1.own hi
    have hn' : f ∉ kvs.map (·.1) := by rw [e2]; exact hn
    refine ⟨_, e1, l, _, dx, kvs, rfl, z2, cl, na, by rw [← List.length_map (f := (·.1)), e2]; exact hlen, o.nx _ _ _ S1 q1 (rp1.put hi e1 ⟨dx, _, rfl, ?_, vals_new h1 hn' z3⟩)⟩
    rw [names_put, putN_new hn', e2]
  · exact q1.elim

/-! ### methods, the class told by the object -/
structure MC (X : Cx) (m : Str) (C : Addr) (sp : Sp) : Prop where
  ex : ∃ k f fd ps, Cls X.K C ∧ Meth X.K C m f ∧ FnOk X.prog X.w X.K X.mg X.base (L2N.CX X.prog X.w) k f fd ps sp ∧ Room k X.A ∧ Binds X.K fd ps []
def tMethV (m : Str) (ok : Addr → Sp → Prop) (E : XK) (ta : TE) (t : TA) : TE := fun σ H Q => ta σ H fun x H1 => ∃ a C dx kvs sp, x = .ref a ∧ H1 a = some (.ins C dx kvs) ∧ kvs.lookup m = none ∧ ok C sp ∧
  t σ H1 fun vs H2 => sp (x :: vs) H2 Q E
def MTree (X : Cx) (o : Expr) (m : Str) (apos pos : Pos) (es : List Expr) (pl : Sem Bool) : Prop := eval (.Call (.Attribute o m apos) es [] pos) X.env = (do
      let ov ← eval o X.env
      standAt apos.atName
      let (f, first) ← holding [ov] (getMethod ov m pl)
      callWith pos f first (backTo pos (starEach es X.env)) (backToKw pos (keywordEach [] X.env)))
omit [KC] in
theorem pe_methV {pl : Sem Bool} {ok : Addr → Sp → Prop} {ta : TE} {t : TA} (he : PE X o ta) (hok : ∀ C sp, ok C sp → MC X m C sp) (hx : Passes (L2N.CX X.prog X.w) X E) (ha : PA X (e :: es) t)
    (hst : starEach (e :: es) X.env = (false, eval e X.env) :: starEach es X.env) (hpl : (backTo pos (starEach es X.env)).any (·.1) = false) (ht : MTree X o m apos pos (e :: es) pl) : PE X (.Call (.Attribute o m apos) (e :: es) [] pos) (tMethV m ok E ta t) := by
  constructor
  intro pins s σ H Q I h
  refine PySem.W.methodCall_KW (pl := pl) (thn (he.run pins s σ H _ I h) ?_) ht
  rintro u s1 ⟨x, H1, I1, rx, a, C, dx, kvs, sp, ex, ea, l, okC, q⟩
  subst ex
  obtain rfl : u = Value.ref a := rx
  obtain ⟨k, f, fd, ps, c, hm, F, hr, hb⟩ := (hok C sp okC).ex
  refine getmeth_ok I1 ea c hm l (PySem.W.callWith_K (first := [.ref a]) (h₀ := X.base) I.ok.mod.kin hm.kp (thn (ha.run pos pins s1 σ H1 _ I1 q) ?_) hst hpl)
  rintro us s2 ⟨vs, H2, I2, r, q2⟩
  refine ⟨I2.kIn, run_fn (us := .ref a :: us) (vs := .ref a :: vs) F hr hb .nil hx I2 (.cons rfl r) ?_⟩
  rw [List.append_nil]
  exact q2
omit [KC] in
theorem pe_methV0 {pl : Sem Bool} {ok : Addr → Sp → Prop} {ta : TE} (he : PE X o ta) (hok : ∀ C sp, ok C sp → MC X m C sp) (hx : Passes (L2N.CX X.prog X.w) X E)
    (ht : MTree X o m apos pos [] pl) : PE X (.Call (.Attribute o m apos) [] [] pos) (tMethV m ok E ta tNil) := by
  constructor
  intro pins s σ H Q I h
  refine PySem.W.methodCall_KW (pl := pl) (thn (he.run pins s σ H _ I h) ?_) ht
  rintro u s1 ⟨x, H1, I1, rx, a, C, dx, kvs, sp, ex, ea, l, okC, q⟩
  subst ex
  obtain rfl : u = Value.ref a := rx
  obtain ⟨k, f, fd, ps, c, hm, F, hr, hb⟩ := (hok C sp okC).ex
  refine getmeth_ok I1 ea c hm l (PySem.W.callWith_K0 (first := [.ref a]) I1.kIn hm.kp (run_fn (us := [.ref a]) (vs := [.ref a]) F hr hb .nil hx I1 (.cons rfl .nil) ?_))
  exact q
/-- .. with no room told -/
structure MK (P : Program) (w : World) (K : PySem.W.Frag) (mg : Str → Option Value) (base : Heap) (k : Nat) (m : Str) (C : Addr) (sp : Sp) : Prop where
  ex : ∃ f fd ps, Cls K C ∧ Meth K C m f ∧ FnOk P w K mg base (L2N.CX P w) k f fd ps sp ∧ Binds K fd ps []
theorem MK.mc {C : Addr} {sp : Sp} (h : MK X.prog X.w X.K X.mg X.base k m C sp) (hr : Room k X.A) : MC X m C sp := by
  obtain ⟨f, fd, ps, c, me, F, b⟩ := h.ex
  exact ⟨k, f, fd, ps, c, me, F, hr, b⟩
theorem mc_of {cs : List Str} {G : Str → Sp} (h : ∀ c ∈ cs, MK X.prog X.w X.K X.mg X.base k m (KC.ca c) (G c)) (hr : Room k X.A) : ∀ c ∈ cs, MC X m (KC.ca c) (G c) := fun c hc => (h c hc).mc hr
/-- the classes that are asked, each with what it keeps of the promise -/
def SPc (c : Str) (sp : Spec) : Spec := fun ds x R => (∃ fs xs r, ds = .obj c fs xs :: r) ∧ sp ds x R
theorem fn_c {P : Program} {w : World} {K : PySem.W.Frag} {mg : Str → Option Value} {base : Heap} {CX : CXT} {g : Addr} {fd : FuncData} {ps : List Str} {sp : Spec} (F : FnOk P w K mg base CX k g fd ps (spOf mg sp)) : FnOk P w K mg base CX k g fd ps (spOf mg (SPc c sp)) :=
  F.imp fun vs H Q E ⟨ds, S, x, R, h1, h2, h3, h4⟩ => ⟨ds, S, x, R, h1, h2, h3.2, h4⟩
def okD (cs : List Str) (mg : Str → Option Value) (sp : Spec) (C : Addr) (u : Sp) : Prop := ∃ c ∈ cs, C = KC.ca c ∧ u = spOf mg (SPc c sp)
/-- an object of one of these classes, without an attribute of this name -/
def isM (cs : List Str) (m : Str) (d : D) : Prop := ∃ c fs xs, d = .obj c fs xs ∧ c ∈ cs ∧ m ∉ fs
theorem okD_mc {cs : List Str} {sp : Spec} (h : ∀ c ∈ cs, MC X m (KC.ca c) (spOf X.mg (SPc c sp))) : ∀ C u, okD cs X.mg sp C u → MC X m C u := by
  rintro C u ⟨c, hc, rfl, rfl⟩
  exact h c hc
theorem allM_nil {P : Str → Prop} : ∀ c ∈ ([] : List Str), P c := fun c h => by cases h
theorem allM_cons {P : Str → Prop} {c : Str} {cs : List Str} (h : P c) (hr : ∀ c ∈ cs, P c) : ∀ d ∈ c :: cs, P d := fun d z => by
  rcases List.mem_cons.mp z with rfl | z
  · exact h
  · exact hr d z
theorem isM.dat {cs : List Str} {d : D} {S H : Hp} {v : V} (h : isM cs m d) (hd : BDat H S d v) : ∃ c fs xs a dx kvs, d = .obj c fs xs ∧ c ∈ cs ∧ v = .ref a ∧ H a = some (.ins (KC.ca c) dx kvs) ∧ kvs.lookup m = none := by
  obtain ⟨c, fs, xs, rfl, hc, hm⟩ := h
  obtain ⟨a, dx, kvs, rfl, r, e, z⟩ := hd
  exact ⟨c, fs, xs, a, dx, kvs, rfl, hc, rfl, r, look_no (by rw [e]; exact hm)⟩
def wMeth (cs : List Str) (m : Str) (sp : Spec) (wa : WE) (wl : WL) : WE := fun x ρ Q => wa x ρ fun d => isM cs m d ∧ wl x ρ fun ds => Ask sp (d :: ds) x (fun r => Q r.d) ⟨⟩
def wMethF (cs : List Str) (m : Str) (sp : Spec) (wa : WE) (wl : WL) : WL := fun x ρ Q => wa x ρ fun d => isM cs m d ∧ wl x ρ fun ds => Ask sp (d :: ds) x (onNew Q) ⟨⟩
def wMethN (cs : List Str) (m : Str) (sp : Spec) (wa : WE) (wl : WL) : WE := fun x ρ Q => wa x ρ fun d => isM cs m d ∧ wl x ρ fun ds => Ask sp (d :: ds) x (fun r => nlR r = true ∧ Q r.d) ⟨⟩
/-- o.m() of a shared object -/
theorem ed_meth0 {pl : Sem Bool} {cs : List Str} {sp : Spec} (h : ∀ c ∈ cs, MC X m (KC.ca c) (spOf X.mg (SPc c sp))) (xk : XOk X E) (ho : ED X E o wa) (ht : MTree X o m apos pos [] pl := by exact rfl) : ED X E (.Call (.Attribute o m apos) [] [] pos) (wMeth cs m sp wa wNil) := by
  obtain ⟨ta, pa, sa⟩ := ho.ex
  refine ⟨_, pe_methV0 pa (okD_mc h) xk.pass ht, fun x ρ Q hw F σ H S Q' rp ex k => ?_⟩
  refine sa x ρ _ hw F σ H S _ rp ex fun d u H1 S1 q1 g1 h1 => ?_
  obtain ⟨c, fs, xs, a, dx, kvs, rfl, hc, rfl, r, l⟩ := q1.1.dat (BDat.of g1.sh h1)
  refine ⟨a, _, dx, kvs, _, rfl, r, l, ⟨c, hc, rfl, rfl⟩, [_], S1, x, _, ⟨g1.sh, (rp.grow g1).fg.tb⟩, .one h1, ⟨⟨fs, xs, [], rfl⟩, q1.2⟩, fun r v H2 S2 q2 g2 h2 => ?_, fun n C H2 S2 xn hC g2 => ex n C H2 S2 xn hC (g1.trans g2)⟩
  obtain ⟨S3, g3, h3⟩ := h2.dat g2
  exact k _ _ H2 S3 q2 (g1.trans g3) h3
theorem df_meth0 {pl : Sem Bool} {cs : List Str} {sp : Spec} (h : ∀ c ∈ cs, MC X m (KC.ca c) (spOf X.mg (SPc c sp))) (xk : XOk X E) (ho : ED X E o wa) (ht : MTree X o m apos pos [] pl := by exact rfl) : DF X E (.Call (.Attribute o m apos) [] [] pos) (wMethF cs m sp wa wNil) := by
  obtain ⟨ta, pa, sa⟩ := ho.ex
  refine ⟨_, pe_methV0 pa (okD_mc h) xk.pass ht, fun x ρ Q hw F σ H S Q' rp ex k => ?_⟩
  refine sa x ρ _ hw F σ H S _ rp ex fun d u H1 S1 q1 g1 h1 => ?_
  obtain ⟨c, fs, xs, a, dx, kvs, rfl, hc, rfl, r, l⟩ := q1.1.dat (BDat.of g1.sh h1)
  refine ⟨a, _, dx, kvs, _, rfl, r, l, ⟨c, hc, rfl, rfl⟩, [_], S1, x, _, ⟨g1.sh, (rp.grow g1).fg.tb⟩, .one h1, ⟨⟨fs, xs, [], rfl⟩, q1.2⟩, fun r v H2 S2 q2 g2 h2 => ?_, fun n C H2 S2 xn hC g2 => ex n C H2 S2 xn hC (g1.trans g2)⟩
  cases r with
  | val d => exact q2.elim
  | newT d => exact q2.elim
  | new c =>
    cases c with
    | dct _ _ => exact q2.elim
    | obj _ _ _ => exact q2.elim
    | lst xs =>
      obtain ⟨p, o, rfl, z0, z1, z2, ws, rfl, z3⟩ := h2
      exact k xs p ws H2 S2 q2 (g1.trans g2) (g1.freeH z0) z1 z2 z3
/-- o.m() of an object that may be a slot's own, telling no list -/
theorem ed_methN0 {pl : Sem Bool} {cs : List Str} {sp : Spec} (h : ∀ c ∈ cs, MC X m (KC.ca c) (spOf X.mg (SPc c sp))) (xk : XOk X E) (ho : BD X E o wa) (ht : MTree X o m apos pos [] pl := by exact rfl) : ED X E (.Call (.Attribute o m apos) [] [] pos) (wMethN cs m sp wa wNil) := by
  obtain ⟨ta, pa, sa⟩ := ho.ex
  refine ⟨_, pe_methV0 pa (okD_mc h) xk.pass ht, fun x ρ Q hw F σ H S Q' rp ex k => ?_⟩
  refine sa x ρ _ hw F σ H S _ rp ex fun d u H1 S1 q1 g1 h1 => ?_
  obtain ⟨c, fs, xs, a, dx, kvs, rfl, hc, rfl, r, l⟩ := q1.1.dat h1
  refine ⟨a, _, dx, kvs, _, rfl, r, l, ⟨c, hc, rfl, rfl⟩, [_], plusS H1 S1 [.ref a], x, _, ⟨plus_sh g1.sh, plus_tb (rp.grow g1).fg.tb⟩, plus_dats (vs := [.ref a]) (ds := [.obj c fs xs]) g1.sh ⟨_, _, rfl, h1, rfl⟩ fun _ h => h, ⟨⟨fs, xs, [], rfl⟩, q1.2⟩, fun r v H2 S2 q2 g2 h2 => ?_, fun n C H2 S2 xn hC g2 => ex n C H2 _ xn hC (g1.trans (minus_grow g1.sh g2))⟩
  obtain ⟨S3, g3, h3⟩ := (minus_rt g2 q2.1 h2).dat (minus_grow g1.sh g2)
  exact k _ _ H2 S3 q2.2 (g1.trans g3) h3
end
end NL

/-! Methods that change their own object, making of objects. -/
namespace NL
open PySem PySem.Spec L2
open PyProof.Rows hiding St
variable [KC]

/-- content, the other arguments, what may be raised, behind: content, what is told -/
abbrev SpecO := Cn → List D → XS → (Cn → D → Prop) → Prop
def spOfO (mg : Str → Option Value) (sp : SpecO) : Sp := fun vs H Q E => ∃ p o rest c ds S x R, vs = .ref p :: rest ∧ (Same S H ∧ Tbq S H) ∧ S p = none ∧ H p = some o ∧ CnOk S c o ∧ Dats S ds rest ∧ sp c ds x R ∧
  (∀ c' d v H' S' o', R c' d → GrowM p H S H' S' → H' p = some o' → CnOk S' c' o' → Dat S' d v → Q v H') ∧ (∀ n C H' S', x n → mg n = some (.ref C) → GrowM p H S H' S' → E (.ref C) none H')
section
variable {P : Program} {w : World} {K : PySem.W.Frag} {mg : Str → Option Value} {base : Heap}
def endO (R : Cn → D → Prop) (r : Rt) (ρ : Ev) : Prop := match r, (ρ[0]? : Option Sl) with
  | .val d, some (.own true c) => R c d
  | _, _ => False
def endsO (R : Cn → D → Prop) (x : XS) : DEnds where
  nx := endO R (.val .non)
  rt := endO R
  ex := x
def startO (n : Nat) (c : Cn) (ds : List D) : Ev := .own true c :: startE (n - 1) ds
theorem rep_startO {H S : Hp} {N : List Str} {ds : List D} {c : Cn} {vs : List V} {p : Addr} {o : HO} (sh : Same S H) (tb : Tbq S H) (hS : S p = none) (hH : H p = some o) (hx : CnOk S c o) (h : Dats S ds vs) (hl : ds.length + 1 ≤ N.length) :
    Rep { H0 := H, S0 := S, M := fun a => a = p } (startO N.length c ds) (L2.start N (.ref p :: vs)) H S := by
  have hlen := h.len
  have st : L2.start N (.ref p :: vs) = some (.ref p) :: (vs.map some ++ List.replicate (N.length - (vs.length + 1)) none) := rfl
  have pick : ∀ (i : Nat) (sl : Sl), (startE (N.length - 1) ds)[i]? = some sl → (∃ d, ds[i]? = some d ∧ sl = .fz d) ∨ sl = .un := fun i sl e => by
    unfold startE at e
    rcases Nat.lt_or_ge i ds.length with hi | hi
    · rw [List.getElem?_append_left (by simpa using hi), List.getElem?_map] at e
      cases q : ds[i]? with
      | none => rw [q] at e; cases e
      | some d => rw [q] at e; cases e; exact .inl ⟨d, rfl, rfl⟩
    · rw [List.getElem?_append_right (by simpa using hi), List.getElem?_replicate] at e
      split at e
      · cases e; exact .inr rfl
      · cases e
  refine ⟨⟨fun _ _ _ e _ => e, fun _ e => e, .refl _, sh, fun _ _ => rfl, fun _ _ _ h => h, tb⟩, ?_, fun i sl e => ?_, fun i j m m' _ _ ne e1 e2 => ?_⟩
  · rw [st]
    unfold startO startE
    simp only [List.length_append, List.length_map, List.length_replicate, List.length_cons]
    omega
  · rw [st]
    cases i with
    | zero =>
      cases e
      exact ⟨p, _, rfl, hS, hH, hx, fun _ => rfl, fun z => by cases z⟩
    | succ i =>
      have e' : (startE (N.length - 1) ds)[i]? = some sl := e
      rw [List.getElem?_cons_succ]
      rcases pick i sl e' with ⟨d, q, rfl⟩ | rfl
      · obtain ⟨v, hv, hz⟩ := h.get q
        have hi : i < ds.length := (List.getElem?_eq_some_iff.mp q).1
        refine ⟨v, ?_, hz⟩
        rw [List.getElem?_append_left (by rw [List.length_map, hlen]; exact hi), List.getElem?_map, hv]
        rfl
      · trivial
  · have only : ∀ (i : Nat) (m : Bool) (c' : Cn), (startO N.length c ds)[i]? = some (.own m c') → i = 0 := fun i m c' e => by
      cases i with
      | zero => rfl
      | succ i =>
        have e' : (startE (N.length - 1) ds)[i]? = some (.own m c') := e
        rcases pick i _ e' with ⟨d, _, z⟩ | z <;> cases z
    exact absurd ((only i m _ e1).trans (only j m' _ e2).symm) ne
theorem fg_growM {H S H' S' : Hp} {p : Addr} (f : FGrow { H0 := H, S0 := S, M := fun a => a = p } H' S') : GrowM p H S H' S' := ⟨fun a o n e nt => f.hh a o n e nt, f.al, f.ft, f.ss, f.sh, f.nw⟩
theorem fn_okO {x qual : Str} {st : Stmt} {f : Addr} {fd : FuncData} {N ps : List Str} {k : Nat} {sp : SpecO} (F : Fun K x qual st f fd) (S : FnScope N ps (defScope st)) (len : ∀ c ds x R, sp c ds x R → ds.length + 1 = ps.length)
    (hbody : ∀ (cdv : Value) (A : Around) (outer : List Env) (s : Shared) (H : Hp) (E : XK), Room k (A.deeper (envOfC qual (defScope st) s.heap.objs.size f cdv)) → XOk (cxF P w K mg base N qual (defScope st) f cdv A outer s H E) E →
      ∃ ws, SDs (cxF P w K mg base N qual (defScope st) f cdv A outer s H E) E (defBody st) ws ∧ ∀ c ds x R, sp c ds x R → ws (endsO R x) (startO N.length c ds)) :
    FnOk P w K mg base (L2N.CX P w) (k + 1) f fd ps (spOfO mg sp) := by
  have hpl : ps.length ≤ N.length := by
    have := congrArg List.length S.pre
    rw [List.length_take] at this
    omega
  refine okN F S (fun vs H Q E h => ?_) (fun cdv A outer s H vs Q E hr h => ?_)
  · obtain ⟨p, o, rest, c, ds, S0, x, R, rfl, _, _, _, _, hd, hs, _⟩ := h
    rw [List.length_cons, hd.len]
    exact len c ds x R hs
  · obtain ⟨p, o, rest, c, ds, S0, x, R, rfl, ⟨sh, tb⟩, hS, hH, hx, hd, hs, k1, k2⟩ := h
    obtain ⟨ws, sd, pure⟩ := hbody cdv A outer s H E hr xk_fn
    obtain ⟨t, pt, so⟩ := sd.ex
    have hl : ds.length + 1 ≤ N.length := by rw [len c ds x R hs]; exact hpl
    have fin : ∀ {ρ : Ev} {σ : L2.St} {H' S' : Hp} {c' : Cn} {d : D} {v : V}, Rep { H0 := H, S0 := S0, M := fun a => a = p } ρ σ H' S' → ρ[0]? = some (.own true c') → R c' d → Dat S' d v → Q v H' := fun {ρ σ H' S' c' d v} r h0 q hd => by
      obtain ⟨p', o', e1, e2, e3, e4, e5, _⟩ := r.own h0
      have : p' = p := e5 rfl
      subst this
      exact k1 c' d v H' S' o' q (fg_growM r.fg) e3 e4 hd
    refine ⟨t, pt, so _ _ (pure c ds x R hs) _ _ H S0 _ (rep_startO sh tb hS hH hx hd hl) ⟨fun ρ σ H' S' q r => ?_, fun r ρ v σ H' S' q rp pp => ?_, fun _ _ _ _ z => z.elim, fun _ _ _ _ z => z.elim, fun n C H' S' h1 h2 h3 => k2 n C H' S' h1 h2 (fg_growM h3)⟩⟩
    · simp only [endsO, endO] at q
      split at q
      · rename_i d c' h1 h0
        cases h1
        exact fin (v := .non) r h0 q (show Dat S' .non .non from .n)
      · exact q.elim
    · simp only [endsO, endO] at q
      split at q
      · rename_i d c' h0
        exact fin rp h0 q pp
      · exact q.elim
end
/-- behind a raise within a callee that changes a slot's own thing -/
theorem Rep.fgM {F : Fr} {ρ : Ev} {σ : L2.St} {H S H' S' : Hp} {i : Nat} {m : Bool} {c : Cn} {p : Addr} (r : Rep F ρ σ H S) (h : ρ[i]? = some (.own m c)) (hp : σ[i]? = some (some (.ref p))) (g : GrowM p H S H' S') : FGrow F H' S' := by
  obtain ⟨p', o1, e1, e2, e3, e4, e5, e6⟩ := r.own h
  have : p' = p := by
    rw [e1] at hp
    cases hp
    rfl
  subst this
  refine ⟨fun a u hm ha nt => ?_, fun a ha => g.ne a (r.fg.al a ha), r.fg.ss.trans g.ss, g.sh, fun a ha => (g.nw a (r.fg.al a ha)).trans (r.fg.nw a ha), fun P q m h => g.tab P q m (r.fg.ft P q m h), ⟨fun q h => g.tab _ _ h (r.fg.tb.1 q h), fun q h => (g.nw q.1 (tab_ne (r.fg.tb.1 q h))).trans (r.fg.tb.2 q h)⟩⟩
  have ne : a ≠ p' := fun z => by
    subst z
    cases m with
    | true => exact hm (e5 rfl)
    | false => rw [e6 rfl] at ha; cases ha
  exact g.hh a u ne (r.fg.hh a u hm ha nt) nt
theorem fg_rep {F : Fr} {σ : L2.St} {H S : Hp} (f : FGrow F H S) : Rep F (List.replicate σ.length .un) σ H S := by
  refine ⟨f, by simp, fun i sl e => ?_, fun i j m m' c c' _ e _ => ?_⟩
  · rw [List.getElem?_replicate] at e
    split at e
    · cases e; trivial
    · cases e
  · rw [List.getElem?_replicate] at e
    split at e <;> cases e

section
variable {X : Cx} {E : XK} {e o : Expr} {es : List Expr} {pos apos mpos p p1 : Pos} {w wa : WE} {wl : WL} {wm : WM} {c m f x y : Str} {fs : List Str} {i k : Nat} {sp : SpecO}
def AskO (sp : SpecO) (c : Cn) (ds : List D) (x : XS) (K : Cn → D → Prop) (_ : Tg K) : Prop := sp c ds x K
/-- self.m(..), self a slot's own object that m may change -/
def wmMeth (i : Nat) (c : Str) (fs : List Str) (sp : SpecO) (wl : WL) : WM := fun x ρ Q => match ρ[i]? with
  | some (.own m (.obj c' fs' xs)) => isO c fs c' fs' ∧ wl x ρ fun ds => AskO sp (.obj c fs xs) ds x (fun c' d => Q d (ρ.set i (.own m c'))) ⟨⟩
  | _ => False
theorem em_meth {pl : Sem Bool} (i : Nat) (c : Str) (fs : List Str) (h : MC X m (KC.ca c) (spOfO X.mg sp)) (xk : XOk X E) (ha : AD X E (e :: es) wl) (hm : m ∉ fs := by decide +kernel)
    (hN : X.N[i]? = some y := by rfl) (hv : Vis X.env.scope y := by first | exact Or.inl rfl | exact Or.inr (Or.inl rfl) | exact Or.inr (Or.inr rfl)) (hd : (y == ("__debug__" : Str)) = false := by decide) (hcd : (y == ("__classdict__" : Str)) = false := by decide)
    (hst : starEach (e :: es) X.env = (false, eval e X.env) :: starEach es X.env := by rfl) (hpl : (backTo pos (starEach es X.env)).any (·.1) = false := by rfl) (ht : MTree X (.Name y p) m apos pos (e :: es) pl := by exact rfl) :
    EM X E (.Call (.Attribute (.Name y p) m apos) (e :: es) [] pos) (wmMeth i c fs sp wl) := by
  obtain ⟨t, pt, s⟩ := ha.ex
  refine ⟨_, pe_methV (ok := fun C u => C = KC.ca c ∧ u = spOfO X.mg sp) (pe_var hN hv hd hcd) (fun C u ⟨e1, e2⟩ => by subst e1 e2; exact h) xk.pass pt hst hpl ht, fun x ρ Q hw F σ H S Q' rp ex k => ?_⟩
  unfold wmMeth at hw
  split at hw
  · rename_i m' c' fs' xs hi
    obtain ⟨⟨rfl, rfl⟩, hw⟩ := hw
    obtain ⟨l, u, e1, h1, h2, ⟨dx, kvs, rfl, e2, h3⟩, _⟩ := rp.own hi
    refine ⟨.ref l, e1, l, _, dx, kvs, _, rfl, h2, look_no (by rw [e2]; exact hm), ⟨rfl, rfl⟩, ?_⟩
    refine s x ρ _ hw F σ H S _ rp (ex _ _ _ rp) fun ds vs H1 S1 q1 g1 hds => ?_
    have rp1 := rp.grow g1
    refine ⟨l, _, vs, .obj c' fs' xs, ds, S1, x, _, rfl, ⟨g1.sh, rp1.fg.tb⟩, by rw [g1.nw l (by rw [h2]; intro z; cases z)]; exact h1, g1.hh.ins h2, ⟨dx, kvs, rfl, e2, Dats.mono g1.ss _ _ h3⟩, hds, q1, fun c' d v H2 S2 o2 q2 g2 z1 z2 z3 => ?_, fun n C H2 S2 xn hC g2 => ?_⟩
    · exact k d v _ H2 S2 q2 (rp1.putM hi e1 g2 z1 z2) (g1.ss.trans g2.ss) z3
    · have fg := rp1.fgM hi e1 g2
      exact ex _ _ _ (fg_rep (σ := σ) fg) n C H2 S2 xn hC (.refl fg.sh)
  · exact hw.elim
theorem em_meth0 {pl : Sem Bool} (i : Nat) (c : Str) (fs : List Str) (h : MC X m (KC.ca c) (spOfO X.mg sp)) (xk : XOk X E) (hm : m ∉ fs := by decide +kernel)
    (hN : X.N[i]? = some y := by rfl) (hv : Vis X.env.scope y := by first | exact Or.inl rfl | exact Or.inr (Or.inl rfl) | exact Or.inr (Or.inr rfl)) (hd : (y == ("__debug__" : Str)) = false := by decide) (hcd : (y == ("__classdict__" : Str)) = false := by decide)
    (ht : MTree X (.Name y p) m apos pos [] pl := by exact rfl) : EM X E (.Call (.Attribute (.Name y p) m apos) [] [] pos) (wmMeth i c fs sp wNil) := by
  refine ⟨_, pe_methV0 (ok := fun C u => C = KC.ca c ∧ u = spOfO X.mg sp) (pe_var hN hv hd hcd) (fun C u ⟨e1, e2⟩ => by subst e1 e2; exact h) xk.pass ht, fun x ρ Q hw F σ H S Q' rp ex k => ?_⟩
  unfold wmMeth at hw
  split at hw
  · rename_i m' c' fs' xs hi
    obtain ⟨⟨rfl, rfl⟩, hw⟩ := hw
    obtain ⟨l, u, e1, h1, h2, ⟨dx, kvs, rfl, e2, h3⟩, _⟩ := rp.own hi
    refine ⟨.ref l, e1, l, _, dx, kvs, _, rfl, h2, look_no (by rw [e2]; exact hm), ⟨rfl, rfl⟩, ?_⟩
    refine ⟨l, _, [], .obj c' fs' xs, [], S, x, _, rfl, ⟨rp.sh, rp.fg.tb⟩, h1, h2, ⟨dx, kvs, rfl, e2, h3⟩, .nil, hw, fun c' d v H2 S2 o2 q2 g2 z1 z2 z3 => ?_, fun n C H2 S2 xn hC g2 => ?_⟩
    · exact k d v _ H2 S2 q2 (rp.putM hi e1 g2 z1 z2) g2.ss z3
    · have fg := rp.fgM hi e1 g2
      exact ex _ _ _ (fg_rep (σ := σ) fg) n C H2 S2 xn hC (.refl fg.sh)
  · exact hw.elim
def wsExprM (wm : WM) : WS := fun q ρ => wm q.ex ρ fun _ ρ1 => q.nx ρ1
theorem sd_exprM (he : EM X E e wm) (hs : swapsWith e none pos.line X.env = pure false := by rfl) : SD X E (.Expr e pos) (wsExprM wm) := by
  obtain ⟨t, pe, s⟩ := he.ex
  refine ⟨_, ps_expr pe hs, fun q ρ hw F σ H S D rp o => ?_⟩
  exact s q.ex ρ _ hw F σ H S _ rp (fun _ _ _ r => o.exOk r) fun d v ρ1 H1 S1 q1 r1 e1 h1 => o.nx _ _ H1 S1 q1 r1
def wsRetM (wm : WM) : WS := fun q ρ => wm q.ex ρ fun d ρ1 => q.rt (.val d) ρ1
theorem sd_retM (he : EM X E e wm) : SD X E (.Return (some e) pos) (wsRetM wm) := by
  obtain ⟨t, pe, s⟩ := he.ex
  refine ⟨_, ps_ret pe, fun q ρ hw F σ H S D rp o => ?_⟩
  exact s q.ex ρ _ hw F σ H S _ rp (fun _ _ _ r => o.exOk r) fun d v ρ1 H1 S1 q1 r1 e1 h1 => o.rt _ ρ1 v σ H1 S1 q1 r1 h1

/-! ### arguments, the last one with an effect -/
structure AM (X : Cx) (E : XK) (es : List Expr) (w : XS → Ev → (List D → Ev → Prop) → Prop) : Prop where
  ex : ∃ t : TA, PA X es t ∧ ∀ (x : XS) (ρ : Ev) (Q : List D → Ev → Prop), w x ρ Q → ∀ (F : Fr) (σ : L2.St) (H S : Hp) (Q' : List V → Hp → Prop), Rep F ρ σ H S → (∀ ρ H S, Rep F ρ σ H S → ExOk X.mg E x H S) →
    (∀ ds vs ρ' H' S', Q ds ρ' → Rep F ρ' σ H' S' → Same S S' → Dats S' ds vs → Q' vs H') → t σ H Q'
def wmOne (wm : WM) : XS → Ev → (List D → Ev → Prop) → Prop := fun x ρ Q => wm x ρ fun d ρ1 => Q [d] ρ1
theorem am_one (he : EM X E e wm) (hs : starEach (e :: []) X.env = (false, eval e X.env) :: starEach [] X.env := by rfl) : AM X E [e] (wmOne wm) := by
  obtain ⟨t, pe, s⟩ := he.ex
  refine ⟨_, pa_cons pe pa_nil hs, fun x ρ Q hw F σ H S Q' rp ex k => ?_⟩
  exact s x ρ _ hw F σ H S _ rp ex fun d v ρ1 H1 S1 q1 r1 e1 h1 => k _ _ ρ1 H1 S1 q1 r1 e1 (.one h1)
def wmCons (wa : WE) (wl : XS → Ev → (List D → Ev → Prop) → Prop) : XS → Ev → (List D → Ev → Prop) → Prop := fun x ρ Q => wa x ρ fun d => wl x ρ fun ds ρ1 => Q (d :: ds) ρ1
theorem am_cons {wl : XS → Ev → (List D → Ev → Prop) → Prop} (ha : ED X E e wa) (hr : AM X E es wl) (hs : starEach (e :: es) X.env = (false, eval e X.env) :: starEach es X.env := by rfl) : AM X E (e :: es) (wmCons wa wl) := by
  obtain ⟨t, pe, s⟩ := ha.ex
  obtain ⟨t', pr, s'⟩ := hr.ex
  refine ⟨_, pa_cons pe pr hs, fun x ρ Q hw F σ H S Q' rp ex k => ?_⟩
  refine s x ρ _ hw F σ H S _ rp (ex _ _ _ rp) fun d v H1 S1 q1 g1 h1 => ?_
  refine s' x ρ _ q1 F σ H1 S1 _ (rp.grow g1) ex fun ds vs ρ2 H2 S2 q2 r2 e2 h2 => ?_
  exact k _ _ ρ2 H2 S2 q2 r2 (g1.ss.trans e2) (.cons (Dat.mono e2 _ _ h1) h2)

/-! ### making -/
/-- what an __init__ gets -/
theorem grow_made {H S H' S' : Hp} {x dx C : Addr} (sh : Same S H) (hx : H x = none) (hdx : H dx = none) (g : GrowM x (upd (upd H dx (.own x)) x (.ins C dx [])) S H' S') : Grow H S H' S' ∧ S' x = none := by
  have low : ∀ b o, H b = some o → (upd (upd H dx (.own x)) x (.ins C dx [])) b = some o := fun b o h => by
    rw [upd_ne (ne_of_none h hx), upd_ne (ne_of_none h hdx)]
    exact h
  have ne0 : ∀ b, H b ≠ none → (upd (upd H dx (.own x)) x (.ins C dx [])) b ≠ none := fun b h => by
    cases q : H b with
    | none => exact absurd q h
    | some o => rw [low b o q]; intro z; cases z
  have tb : ∀ P q, LamX.TabS H P q → LamX.TabS (upd (upd H dx (.own x)) x (.ins C dx [])) P q := fun P q h => h.ext low
  refine ⟨⟨⟨fun b o h n => g.hh b o (fun z => by subst z; rw [hx] at h; cases h) (low b o h) n, fun b h => g.ne b (ne0 b h), fun P q m h => g.tab P q m (tb P q h)⟩, g.ss, g.sh, fun a h => g.nw a (ne0 a h)⟩, ?_⟩
  rw [g.nw x (by rw [upd_same]; intro z; cases z)]
  exact sh.free hx
theorem tbq_made {H S : Hp} {x dx C : Addr} (t : Tbq S H) (hx : H x = none) (hdx : H dx = none) : Tbq S (upd (upd H dx (.own x)) x (.ins C dx [])) :=
  ⟨fun p hp => (t.1 p hp).ext fun b o h => by
    rw [upd_ne (ne_of_none h hx), upd_ne (ne_of_none h hdx)]
    exact h, t.2⟩
theorem same_made {H S : Hp} {x dx C : Addr} (sh : Same S H) (hx : H x = none) (hdx : H dx = none) : Same S (upd (upd H dx (.own x)) x (.ins C dx [])) := fun b o h => by
  have := sh b o h
  rw [upd_ne (ne_of_none this hx), upd_ne (ne_of_none this hdx)]
  exact this
/-- the call of a class, for whatever its arguments are -/
theorem made_ok {mg : Str → Option Value} {c : Str} {ds : List D} {vs : List V} {xs : XS} {K : Cn → D → Prop} {H S : Hp} {Q : VK} (sh : Same S H) (tb : Tbq S H) (h : Dats S ds vs) (hs : sp (.obj c [] []) ds xs K) (ex : ExOk mg E xs H S)
    (k : ∀ c' d x o H' S', K c' d → Grow H S H' S' → H x = none → S' x = none → H' x = some o → CnOk S' c' o → d = .non → Q (.ref x) H') (hn : ∀ c' d, K c' d → d = .non) :
    ∀ x dx, H x = none → H dx = none → dx ≠ x → spOfO mg sp (.ref x :: (vs ++ [])) (upd (upd H dx (.own x)) x (.ins (KC.ca c) dx [])) (fun v H2 => v = .non ∧ Q (.ref x) H2) E := by
  intro x dx hx hdx ne
  refine ⟨x, _, vs, .obj c [] [], ds, S, xs, K, by rw [List.append_nil], ⟨same_made sh hx hdx, tbq_made tb hx hdx⟩, sh.free hx, upd_same, ⟨dx, [], rfl, rfl, .nil⟩, h, hs, fun c' d v H' S' o' q g z1 z2 z3 => ?_, fun n C H' S' xn hC g => ?_⟩
  · obtain ⟨g', hS⟩ := grow_made sh hx hdx g
    have := hn c' d q
    subst this
    unfold Dat at z3
    exact ⟨z3, k c' _ x o' H' S' q g' hx hS z1 z2 rfl⟩
  · exact ex n C H' S' xn hC (grow_made sh hx hdx g).1
def wMake (c : Str) (sp : SpecO) (wl : WL) : WE := fun x ρ Q => wl x ρ fun ds => AskO sp (.obj c [] []) ds x (fun c' d => d = .non ∧ Q c'.d) ⟨⟩
theorem ed_make {f : Addr} {fd : FuncData} {ps : List Str} (c : Str) (M : Mk X.K (KC.ca c) f) (F : FnOk X.prog X.w X.K X.mg X.base (L2N.CX X.prog X.w) k f fd ps (spOfO X.mg sp)) (hr : Room (k + 1) X.A) (xk : XOk X E) (hg : Gl X x) (hm : X.mg x = some (.ref (KC.ca c))) (hb : Binds X.K fd ps [])
    (ha : AD X E (e :: es) wl) (hdb : (x == ("__debug__" : Str)) = false := by decide) (he : starEach (e :: es) X.env = (false, eval e X.env) :: starEach es X.env := by rfl) (hpl : (backTo pos (starEach es X.env)).any (·.1) = false := by rfl) :
    ED X E (.Call (.Name x p) (e :: es) [] pos) (wMake c sp wl) := by
  obtain ⟨t, pt, s⟩ := ha.ex
  refine ⟨_, pe_make M F hr hg hm hb .nil xk.pass pt hdb he hpl, fun x ρ Q hw F σ H S Q' rp ex k => ?_⟩
  refine s x ρ _ hw F σ H S _ rp ex fun ds vs H1 S1 q1 g1 h1 => ?_
  refine made_ok g1.sh (rp.grow g1).fg.tb h1 q1 (ex.grow g1) (fun c' d y o H' S' q g hx hS hH hc _ => ?_) fun _ _ z => z.1
  exact k _ _ H' (upd S' y o) q.2 (g1.trans (g.share hx hS hH)) (CnOk.dat upd_same (hc.mono (same_upd hS)))
def wmMake (c : Str) (sp : SpecO) (wl : XS → Ev → (List D → Ev → Prop) → Prop) : WM := fun x ρ Q => wl x ρ fun ds ρ1 => AskO sp (.obj c [] []) ds x (fun c' d => d = .non ∧ Q c'.d ρ1) ⟨⟩
theorem em_make {f : Addr} {fd : FuncData} {ps : List Str} {wl : XS → Ev → (List D → Ev → Prop) → Prop} (c : Str) (M : Mk X.K (KC.ca c) f) (F : FnOk X.prog X.w X.K X.mg X.base (L2N.CX X.prog X.w) k f fd ps (spOfO X.mg sp)) (hr : Room (k + 1) X.A) (xk : XOk X E) (hg : Gl X x) (hm : X.mg x = some (.ref (KC.ca c))) (hb : Binds X.K fd ps [])
    (ha : AM X E (e :: es) wl) (hdb : (x == ("__debug__" : Str)) = false := by decide) (he : starEach (e :: es) X.env = (false, eval e X.env) :: starEach es X.env := by rfl) (hpl : (backTo pos (starEach es X.env)).any (·.1) = false := by rfl) :
    EM X E (.Call (.Name x p) (e :: es) [] pos) (wmMake c sp wl) := by
  obtain ⟨t, pt, s⟩ := ha.ex
  refine ⟨_, pe_make M F hr hg hm hb .nil xk.pass pt hdb he hpl, fun x ρ Q hw F σ H S Q' rp ex k => ?_⟩
  refine s x ρ _ hw F σ H S _ rp ex fun ds vs ρ1 H1 S1 q1 r1 e1 h1 => ?_
  refine made_ok r1.sh r1.fg.tb h1 q1 (ex _ _ _ r1) (fun c' d y o H' S' q g hx hS hH hc _ => ?_) fun _ _ z => z.1
  exact k _ _ ρ1 H' (upd S' y o) q.2 (r1.grow (g.share hx hS hH)) (e1.trans (g.ss.trans (same_upd hS))) (CnOk.dat upd_same (hc.mono (same_upd hS)))
/-- x = C(..), the slot's own -/
def wsSetMk (i : Nat) (c : Str) (sp : SpecO) (wl : WL) : WS := fun q ρ => wl q.ex ρ fun ds => AskO sp (.obj c [] []) ds q.ex (fun c' d => d = .non ∧ q.nx (ρ.set i (.own false c'))) ⟨⟩
theorem sd_setMk {f : Addr} {fd : FuncData} {ps : List Str} (i : Nat) (c : Str) (hN : X.N.Nodup) (M : Mk X.K (KC.ca c) f) (F : FnOk X.prog X.w X.K X.mg X.base (L2N.CX X.prog X.w) k f fd ps (spOfO X.mg sp)) (hr : Room (k + 1) X.A) (xk : XOk X E) (hg : Gl X x) (hm : X.mg x = some (.ref (KC.ca c))) (hb : Binds X.K fd ps [])
    (ha : AD X E (e :: es) wl) (hi : X.N[i]? = some y := by rfl) (hy : Loc X.env.scope y := by first | exact Or.inl rfl | exact Or.inr rfl) (hs : swapsWith (.Call (.Name x p) (e :: es) [] mpos) (some (.Name y p1)) pos.line X.env = pure false := by rfl)
    (hf : X.fn y = true ∨ X.env.scope.names.lookup y = some .local := by first | exact .inl rfl | exact .inr rfl)
    (hdb : (x == ("__debug__" : Str)) = false := by decide) (he : starEach (e :: es) X.env = (false, eval e X.env) :: starEach es X.env := by rfl) (hpl : (backTo mpos (starEach es X.env)).any (·.1) = false := by rfl) :
    SD X E (.Assign [.Name y p1] (.Call (.Name x p) (e :: es) [] mpos) pos) (wsSetMk i c sp wl) := by
  obtain ⟨t, pt, s⟩ := ha.ex
  refine ⟨_, ps_set hN hi hy (pe_make M F hr hg hm hb .nil xk.pass pt hdb he hpl) hs hf, fun q ρ hw F σ H S D rp o => ?_⟩
  refine s q.ex ρ _ hw F σ H S _ rp (o.exOk rp) fun ds vs H1 S1 q1 g1 h1 => ?_
  have rp1 := rp.grow g1
  refine made_ok (Q := fun x H1 => gName i x σ H1 D.nx) g1.sh rp1.fg.tb h1 q1 ((o.exOk rp).grow g1) (fun c' d z u H' S' q2 g hx hS hH hc _ => ?_) fun _ _ z => z.1
  exact o.nx _ _ H' S' q2.2 ((rp1.grow g).setOwn hS hH hc (fg_free rp1.fg hx) (own_ne rp1 hx))

/-! ### int(text), str(text) -/
def gToIntS : List D → (D → Prop) → Prop
  | [.str s], Q => ∃ n, PySem.intText? s = some n ∧ s.length ≤ 640 ∧ Q (.int n)
  | _, _ => False
theorem cIntS : CalD X (.type "int") gToIntS := by
  refine ⟨_, call_int_str, fun ds Q h H S vs Q' sh hd k => ?_⟩
  unfold gToIntS at h
  split at h
  · obtain ⟨v, rfl, hz⟩ := hd.one
    obtain ⟨n, h1, h2, q⟩ := h
    cases hz.s
    exact ⟨_, n, rfl, h1, h2, k _ _ H S q (.refl sh) .i⟩
  · exact h.elim
end
def gStr : List D → (D → Prop) → Prop
  | [.int i], Q => i.natAbs.log2 < 1920 ∧ Q (.str (toString i))
  | _, _ => False
theorem cStr {X : Cx} : CalD X (.type "str") gStr := by
  refine ⟨_, call_str_int, fun ds Q h H S vs Q' sh hd k => ?_⟩
  unfold gStr at h
  split at h
  · obtain ⟨v, rfl, hz⟩ := hd.one
    cases hz.i
    exact ⟨_, rfl, h.1, k _ _ H S h.2 (.refl sh) .s⟩
  · exact h.elim
/-- a promise that nobody may ask for -/
theorem fn_noS {P : Program} {w : World} {K : PySem.W.Frag} {mg : Str → Option Value} {base : Heap} {CX : CXT} {k : Nat} {f : Addr} {fd : FuncData} {ps : List Str} {sp : Sp} (h : ∀ vs H Q E, ¬ sp vs H Q E) : FnOk P w K mg base CX k f fd ps sp :=
  ⟨fun vs H Q E z => (h vs H Q E z).elim, fun _ _ _ H _ _ vs Q E _ _ _ _ z => (h vs H Q E z).elim⟩
theorem fn_noO {P : Program} {w : World} {K : PySem.W.Frag} {mg : Str → Option Value} {base : Heap} {CX : CXT} {k : Nat} {f : Addr} {fd : FuncData} {ps : List Str} {sp : SpecO} (h : ∀ c ds x R, ¬ sp c ds x R) : FnOk P w K mg base CX k f fd ps (spOfO mg sp) :=
  fn_noS fun _ _ _ _ ⟨_, _, _, _, _, _, _, _, _, _, _, _, _, _, hs, _⟩ => h _ _ _ _ hs
theorem fn_noC {P : Program} {w : World} {K : PySem.W.Frag} {mg : Str → Option Value} {base : Heap} {c : Str} {k : Nat} {f : Addr} {fd : FuncData} {ps : List Str} {sp : Spec} (h : ∀ ds x R, ¬ sp ds x R) : FnOk P w K mg base (L2N.CX P w) k f fd ps (spOf mg (SPc c sp)) :=
  fn_no fun _ _ _ z => h _ _ _ z.2
/-- classes by their names -/
def ccOf : List (Str × Addr) → Str → Addr
  | [], _ => 0
  | (c, a) :: l, d => if c = d then a else ccOf l d
omit [KC] in
theorem ccOf_hd {c : Str} {a : Addr} {l : List (Str × Addr)} : ccOf ((c, a) :: l) c = a := if_pos rfl
omit [KC] in
theorem ccOf_tl {c d : Str} {a b : Addr} {l : List (Str × Addr)} (h : ¬ c = d) (e : ccOf l d = b) : ccOf ((c, a) :: l) d = b := (if_neg h).trans e
end NL

/-! Things of a def's own beside its slots (a yard); the blocks that are open. -/
namespace NL
open PySem PySem.Spec L2
open PyProof.Rows hiding St
def opF (n : Str) (t : Int) (l : Addr) : List (Str × V) := [(("nail" : Str), V.str n), (("turns" : Str), V.int t), (("places" : Str), V.ref l)]
theorem on1 : ¬ ("nail" : Str) = "turns" := by decide +kernel
theorem on2 : ¬ ("nail" : Str) = "places" := by decide +kernel
theorem on3 : ¬ ("turns" : Str) = "places" := by decide +kernel
theorem opF_made (n : Str) (l : Addr) : putF "places" (.ref l) (putF "turns" (.int 0) (putF "nail" (.str n) [])) = opF n 0 l := by
  simp only [putF, if_neg on1, if_neg on2, if_neg on3, opF]
theorem opF_put (n : Str) (t u : Int) (l : Addr) : putF "turns" (.int u) (opF n t l) = opF n u l := by
  simp only [putF, opF, if_neg on1, if_true]
theorem opF_nail (n : Str) (t : Int) (l : Addr) : (opF n t l).lookup ("nail" : Str) = some (V.str n) := by
  simp [opF, List.lookup]
theorem opF_turns (n : Str) (t : Int) (l : Addr) : (opF n t l).lookup ("turns" : Str) = some (V.int t) := by
  have : (("turns" : Str) == ("nail" : Str)) = false := beq_eq_false_iff_ne.mpr fun z => on1 z.symm
  simp only [opF, List.lookup, this, beq_self_eq_true]
theorem opF_places (n : Str) (t : Int) (l : Addr) : (opF n t l).lookup ("places" : Str) = some (V.ref l) := by
  have h1 : (("places" : Str) == ("nail" : Str)) = false := beq_eq_false_iff_ne.mpr fun z => on2 z.symm
  have h2 : (("places" : Str) == ("turns" : Str)) = false := beq_eq_false_iff_ne.mpr fun z => on3 z.symm
  simp only [opF, List.lookup, h1, h2, beq_self_eq_true]
theorem opF_take (n : Str) (t : Int) (l : Addr) : (opF n t l).lookup ("take" : Str) = none := by
  have h1 : (("take" : Str) == ("nail" : Str)) = false := by decide +kernel
  have h2 : (("take" : Str) == ("turns" : Str)) = false := by decide +kernel
  have h3 : (("take" : Str) == ("places" : Str)) = false := by decide +kernel
  simp only [opF, List.lookup, h1, h2, h3]
theorem opF_names (n : Str) (t : Int) (l : Addr) : (opF n t l).map (·.1) = (["nail", "turns", "places"] : List Str) := rfl
def spOpenI (C : Addr) : Sp := fun vs H Q _ => ∃ p n dx, vs = [.ref p, .str n] ∧ H p = some (.ins C dx []) ∧ ∀ l, H l = none → Q .non (upd (upd H l (.lst [])) p (.ins C dx (opF n 0 l)))
def spTake (C : Addr) : Sp := fun vs H Q _ => ∃ p k t n t0 l dx us, vs = [.ref p, .int k, .int t] ∧ H p = some (.ins C dx (opF n t0 l)) ∧ H l = some (.lst us) ∧ us.length < sizeLine ∧ Q .non (upd (upd H p (.ins C dx (opF n (t0 + t) l))) l (.lst (us ++ [.int k])))
variable [KC]

/-! ### the yard -/
abbrev Yard := List (Addr × HO)
def ntb (o : HO) : Prop := (∀ ps, o ≠ .tbl ps) ∧ ∀ φ, o ≠ .ext φ
structure YOk (F : Fr) (L : Yard) (H S : Hp) : Prop where
  nd : (L.map (·.1)).Nodup
  at' : ∀ x ∈ L, H x.1 = some x.2 ∧ S x.1 = none ∧ F.H0 x.1 = none ∧ ntb x.2
def ownA (ρ : Ev) (σ : L2.St) (a : Addr) : Prop := ∃ (i : Nat) (m : Bool) (c : Cn), ρ[i]? = some (Sl.own m c) ∧ σ[i]? = some (some (V.ref a))
structure RepL (F : Fr) (L : Yard) (ρ : Ev) (σ : L2.St) (H S : Hp) : Prop where
  rp : Rep F ρ σ H S
  nm : ∀ (i : Nat) (c : Cn), ρ[i]? ≠ some (Sl.own true c)
  y : YOk F L H S
  ap : ∀ x ∈ L, ¬ ownA ρ σ x.1
open Classical in
noncomputable def rebH (ρ : Ev) (σ : L2.St) (H : Hp) : Hp := fun a => if ownA ρ σ a then none else H a
noncomputable def reb (F : Fr) (ρ : Ev) (σ : L2.St) (H S : Hp) : Fr := { H0 := rebH ρ σ H, S0 := S, M := fun _ => False }
section
variable {F : Fr} {L : Yard} {ρ ρ1 : Ev} {σ σ1 : L2.St} {H S H1 S1 : Hp}
theorem rebH_own {a : Addr} (h : ownA ρ σ a) : rebH ρ σ H a = none := if_pos h
theorem rebH_no {a : Addr} (h : ¬ ownA ρ σ a) : rebH ρ σ H a = H a := if_neg h
theorem rebH_some {a : Addr} {o : HO} (h : rebH ρ σ H a = some o) : H a = some o := by
  by_cases z : ownA ρ σ a
  · rw [rebH_own z] at h; cases h
  · rw [rebH_no z] at h; exact h
theorem Rep.ownOk (r : Rep F ρ σ H S) (nm : ∀ (i : Nat) (c : Cn), ρ[i]? ≠ some (Sl.own true c)) {a : Addr} (h : ownA ρ σ a) : F.H0 a = none ∧ ∃ o, H a = some o ∧ ntb o := by
  obtain ⟨i, m, c, e1, e2⟩ := h
  obtain ⟨p, o, f1, f2, f3, f4, f5, f6⟩ := r.own e1
  rw [e2] at f1
  cases f1
  cases m with
  | true => exact absurd e1 (nm i c)
  | false => exact ⟨f6 rfl, o, f3, f4.ntb⟩
theorem reb_to (r : RepL F L ρ σ H S) : Rep (reb F ρ σ H S) ρ σ H S := by
  refine ⟨⟨fun a o _ e _ => rebH_some e, fun a e => ?_, .refl _, r.rp.sh, fun _ _ => rfl, fun P q _ t => t.ext fun b o e => rebH_some e, r.rp.fg.tb⟩, r.rp.len, fun i sl e => ?_, r.rp.dist⟩
  · cases q : rebH ρ σ H a with
    | none => exact absurd q e
    | some o => rw [rebH_some q]; intro z; cases z
  · have q := r.rp.at' i sl e
    cases sl with
    | un => trivial
    | fz d => exact q
    | own m c =>
      obtain ⟨p, o, f1, f2, f3, f4, f5, f6⟩ := q
      exact ⟨p, o, f1, f2, f3, f4, fun z => (by subst z; exact absurd e (r.nm i c)), fun _ => rebH_own ⟨i, m, c, e, f1⟩⟩
theorem fg_of (r : RepL F L ρ σ H S) (g : FGrow (reb F ρ σ H S) H1 S1) : FGrow F H1 S1 := by
  have no : ∀ {a : Addr}, F.H0 a ≠ none → ¬ ownA ρ σ a := fun h z => h (r.rp.ownOk r.nm z).1
  refine ⟨fun a o hm e n => ?_, fun a e => ?_, r.rp.fg.ss.trans g.ss, g.sh, fun a e => ?_, fun P q hm t => ?_, g.tb⟩
  · have e2 := r.rp.fg.hh a o hm e n
    exact g.hh a o (fun z => z) (by show rebH ρ σ H a = _; rw [rebH_no (no (by rw [e]; intro z; cases z))]; exact e2) n
  · exact g.al a (by show rebH ρ σ H a ≠ _; rw [rebH_no (no e)]; exact r.rp.fg.al a e)
  · exact (g.nw a (by show rebH ρ σ H a ≠ _; rw [rebH_no (no e)]; exact r.rp.fg.al a e)).trans (r.rp.fg.nw a e)
  · refine g.ft P q hm ?_
    obtain ⟨ps, h1, h2, h3⟩ := r.rp.fg.ft P q hm t
    have nP : ¬ ownA ρ σ P := fun z => by
      obtain ⟨o, e, n⟩ := (r.rp.ownOk r.nm z).2
      exact n.1 ps (Option.some.inj (e.symm.trans h1))
    refine ⟨ps, (rebH_no nP).trans h1, h2, fun pos cv hc => ?_⟩
    obtain ⟨c, e1, e2⟩ := h3 pos cv hc
    have nc : ¬ ownA ρ σ c := fun z => by
      obtain ⟨o, e, n⟩ := (r.rp.ownOk r.nm z).2
      exact n.2 _ (Option.some.inj (e.symm.trans e2))
    exact ⟨c, e1, (rebH_no nc).trans e2⟩
theorem reb_of (r : RepL F L ρ σ H S) (g : Rep (reb F ρ σ H S) ρ1 σ1 H1 S1) : RepL F L ρ1 σ1 H1 S1 := by
  have hy : ∀ x ∈ L, rebH ρ σ H x.1 = some x.2 := fun x hx => (rebH_no (r.ap x hx)).trans (r.y.at' x hx).1
  refine ⟨⟨fg_of r g.fg, g.len, fun i sl e => ?_, g.dist⟩, fun i c e => ?_, ⟨r.y.nd, fun x hx => ?_⟩, fun x hx ⟨i, m, c, e1, e2⟩ => ?_⟩
  · have q := g.at' i sl e
    cases sl with
    | un => trivial
    | fz d => exact q
    | own m c =>
      obtain ⟨p, o, f1, f2, f3, f4, f5, f6⟩ := q
      refine ⟨p, o, f1, f2, f3, f4, fun z => (f5 z).elim, fun z => ?_⟩
      cases q : F.H0 p with
      | none => rfl
      | some u =>
        have ne : F.H0 p ≠ none := by rw [q]; intro z; cases z
        have e2 : rebH ρ σ H p = none := f6 z
        rw [rebH_no fun z => ne (r.rp.ownOk r.nm z).1] at e2
        exact absurd e2 (r.rp.fg.al p ne)
  · obtain ⟨p, o, _, _, _, _, f5, _⟩ := g.own e
    exact f5 rfl
  · obtain ⟨h1, h2, h3, h4⟩ := r.y.at' x hx
    refine ⟨g.fg.hh x.1 x.2 (fun z => z) (hy x hx) h4.1, ?_, h3, h4⟩
    rw [g.fg.nw x.1 (by show rebH ρ σ H x.1 ≠ none; rw [hy x hx]; intro z; cases z)]
    exact h2
  · obtain ⟨p, o, f1, f2, f3, f4, f5, f6⟩ := g.own e1
    rw [e2] at f1
    cases f1
    cases m with
    | true => exact f5 rfl
    | false =>
      have e3 : rebH ρ σ H x.1 = none := f6 rfl
      rw [hy x hx] at e3
      cases e3
theorem RepL.grow (r : RepL F L ρ σ H S) (g : Grow H S H1 S1) : RepL F L ρ σ H1 S1 := by
  refine ⟨r.rp.grow g, r.nm, ⟨r.y.nd, fun x hx => ?_⟩, r.ap⟩
  obtain ⟨h1, h2, h3, h4⟩ := r.y.at' x hx
  exact ⟨g.hh.keep _ _ h1 h4.1, by rw [g.nw x.1 (by rw [h1]; intro z; cases z)]; exact h2, h3, h4⟩
theorem RepL.perm {L' : Yard} (r : RepL F L ρ σ H S) (h : L.Perm L') : RepL F L' ρ σ H S :=
  ⟨r.rp, r.nm, ⟨(h.map _).nodup_iff.mp r.y.nd, fun x hx => r.y.at' x (h.mem_iff.mpr hx)⟩, fun x hx => r.ap x (h.mem_iff.mpr hx)⟩
theorem RepL.drop {x : Addr × HO} (r : RepL F (x :: L) ρ σ H S) : RepL F L ρ σ H S :=
  ⟨r.rp, r.nm, ⟨(List.nodup_cons.mp r.y.nd).2, fun y hy => r.y.at' y (.tail _ hy)⟩, fun y hy => r.ap y (.tail _ hy)⟩
theorem RepL.new {a : Addr} {o : HO} (r : RepL F L ρ σ H S) (g : Grow H S H1 S1) (h : H a = none) (hS : S1 a = none) (h1 : H1 a = some o) (n : ntb o) : RepL F ((a, o) :: L) ρ σ H1 S1 := by
  have r1 := r.grow g
  refine ⟨r1.rp, r.nm, ⟨?_, fun x hx => ?_⟩, fun x hx => ?_⟩
  · rw [List.map_cons, List.nodup_cons]
    refine ⟨fun z => ?_, r.y.nd⟩
    obtain ⟨x, hx, e⟩ := List.mem_map.mp z
    have := (r.y.at' x hx).1
    rw [e, h] at this
    cases this
  · rcases List.mem_cons.mp hx with rfl | hx
    · exact ⟨h1, hS, fg_free r.rp.fg h, n⟩
    · exact r1.y.at' x hx
  · rcases List.mem_cons.mp hx with rfl | hx
    · rintro ⟨i, m, c, e1, e2⟩
      obtain ⟨p, o, f1, f2, f3, _⟩ := r.rp.own e1
      rw [e2] at f1
      cases f1
      rw [h] at f3
      cases f3
    · exact r.ap x hx
/-- a thing of the yard is written -/
theorem RepL.put {a : Addr} {o o' : HO} (r : RepL F ((a, o) :: L) ρ σ H S) (n' : ntb o') : RepL F ((a, o') :: L) ρ σ (upd H a o') S := by
  obtain ⟨ha, hS, h0, n⟩ := r.y.at' _ (.head _)
  have et := ExtT.put (o' := o') ha n.1 n.2
  have ap := r.ap _ (.head _)
  refine ⟨⟨⟨fun b u hm hb nt => ?_, fun b hb => et.1 b (r.rp.fg.al b hb), r.rp.fg.ss, fun b u hb => ?_, r.rp.fg.nw, fun P q m h => et.2 P q (r.rp.fg.ft P q m h), ⟨fun q h => et.2 _ _ (r.rp.fg.tb.1 q h), r.rp.fg.tb.2⟩⟩, r.rp.len, fun j sl e => ?_, r.rp.dist⟩, r.nm, ⟨r.y.nd, fun x hx => ?_⟩, fun x hx => ?_⟩
  · rw [upd_ne (fun z => by rw [z, h0] at hb; cases hb)]
    exact r.rp.fg.hh b u hm hb nt
  · rw [upd_ne (fun z => by rw [z, hS] at hb; cases hb)]
    exact r.rp.fg.sh b u hb
  · have q := r.rp.at' j sl e
    cases sl with
    | un => trivial
    | fz d => exact q
    | own m c =>
      obtain ⟨p, u, f1, f2, f3, f4, f5⟩ := q
      refine ⟨p, u, f1, f2, ?_, f4, f5⟩
      rw [upd_ne (fun z => ap ⟨j, m, c, e, by rw [f1, z]⟩)]
      exact f3
  · rcases List.mem_cons.mp hx with rfl | hx
    · exact ⟨upd_same, hS, h0, n'⟩
    · have ne : x.1 ≠ a := fun z => (List.nodup_cons.mp r.y.nd).1 (List.mem_map.mpr ⟨x, hx, z⟩)
      show upd H a o' x.1 = some x.2 ∧ _
      rw [upd_ne ne]
      exact r.y.at' x (.tail _ hx)
  · rcases List.mem_cons.mp hx with rfl | hx
    · exact ap
    · exact r.ap x (.tail _ hx)
/-- a slot's own thing is written -/
theorem RepL.set {i : Nat} {m : Bool} {c c' : Cn} {p : Addr} {o' : HO} (r : RepL F L ρ σ H S) (h : ρ[i]? = some (.own m c)) (hp : σ[i]? = some (some (.ref p))) (hc : CnOk S c' o') : RepL F L (ρ.set i (.own m c')) σ (upd H p o') S := by
  have op : ownA ρ σ p := ⟨i, m, c, h, hp⟩
  have hl : i < ρ.length := (List.getElem?_eq_some_iff.mp h).1
  refine ⟨r.rp.put h hp hc, fun j c1 e => ?_, ⟨r.y.nd, fun x hx => ?_⟩, fun x hx ⟨j, m1, c1, e1, e2⟩ => ?_⟩
  · by_cases z : i = j
    · subst z
      rw [List.getElem?_set_self hl] at e
      cases e
      exact r.nm i c h
    · rw [List.getElem?_set_ne z] at e
      exact r.nm j c1 e
  · rw [upd_ne (fun z => r.ap x hx (by rw [z]; exact op))]
    exact r.y.at' x hx
  · by_cases z : i = j
    · subst z
      rw [List.getElem?_set_self hl] at e1
      exact r.ap x hx ⟨i, m, c, h, e2⟩
    · rw [List.getElem?_set_ne z] at e1
      exact r.ap x hx ⟨j, m1, c1, e1, e2⟩
open Classical in
/-- the yard shared -/
noncomputable def frzS (L : Yard) (H S : Hp) : Hp := fun a => if a ∈ L.map (·.1) then H a else S a
theorem frzS_in {x : Addr × HO} (hx : x ∈ L) : frzS L H S x.1 = H x.1 := if_pos (List.mem_map.mpr ⟨x, hx, rfl⟩)
theorem frzS_no {a : Addr} (h : ¬ a ∈ L.map (·.1)) : frzS L H S a = S a := if_neg h
theorem frzS_same (r : RepL F L ρ σ H S) : Same S (frzS L H S) := fun a o e => by
  rw [frzS_no fun z => ?_]
  · exact e
  · obtain ⟨x, hx, rfl⟩ := List.mem_map.mp z
    rw [(r.y.at' x hx).2.1] at e
    cases e
theorem RepL.frz (r : RepL F L ρ σ H S) : Rep F ρ σ H (frzS L H S) := by
  have ss := frzS_same r
  refine ⟨⟨r.rp.fg.hh, r.rp.fg.al, r.rp.fg.ss.trans ss, fun a o e => ?_, fun a e => ?_, r.rp.fg.ft, r.rp.fg.tb.1, fun q hq => ?_⟩, r.rp.len, fun i sl e => ?_, r.rp.dist⟩
  · by_cases z : a ∈ L.map (·.1)
    · obtain ⟨x, hx, rfl⟩ := List.mem_map.mp z
      rw [frzS_in hx] at e
      exact e
    · rw [frzS_no z] at e
      exact r.rp.sh a o e
  · rw [frzS_no fun z => ?_]
    · exact r.rp.fg.nw a e
    · obtain ⟨x, hx, rfl⟩ := List.mem_map.mp z
      exact e (r.y.at' x hx).2.2.1
  · rw [frzS_no fun z => ?_]
    · exact r.rp.fg.tb.2 q hq
    · obtain ⟨x, hx, e⟩ := List.mem_map.mp z
      obtain ⟨ps, h2, _⟩ := r.rp.fg.tb.1 q hq
      obtain ⟨h1, _, _, n⟩ := r.y.at' x hx
      rw [← e, h1] at h2
      exact n.1 ps (Option.some.inj h2)
  · have q := r.rp.at' i sl e
    cases sl with
    | un => trivial
    | fz d =>
      obtain ⟨v, e1, h1⟩ := q
      exact ⟨v, e1, Dat.mono ss _ _ h1⟩
    | own m c =>
      obtain ⟨p, u, f1, f2, f3, f4, f5⟩ := q
      refine ⟨p, u, f1, ?_, f3, f4.mono ss, f5⟩
      rw [frzS_no fun z => ?_]
      · exact f2
      · obtain ⟨x, hx, z⟩ := List.mem_map.mp z
        exact r.ap x hx ⟨i, m, c, e, by rw [f1, z]⟩
/-- a slot's own thing told otherwise -/
theorem Rep.told {i : Nat} {m : Bool} {c c' : Cn} {p : Addr} {o : HO} (r : Rep F ρ σ H S) (h : ρ[i]? = some (.own m c)) (hp : σ[i]? = some (some (.ref p))) (ho : H p = some o) (hc : CnOk S c' o) : Rep F (ρ.set i (.own m c')) σ H S := by
  have hl : i < ρ.length := (List.getElem?_eq_some_iff.mp h).1
  refine ⟨r.fg, by simp [r.len], fun j sl e => ?_, fun j k m1 m2 c1 c2 n q1 q2 => ?_⟩
  · by_cases z : i = j
    · subst z
      rw [List.getElem?_set_self hl] at e
      cases e
      obtain ⟨p', u, f1, f2, f3, f4, f5⟩ := r.own h
      rw [hp] at f1
      cases f1
      exact ⟨p, o, hp, f2, ho, hc, f5⟩
    · rw [List.getElem?_set_ne z] at e
      exact r.at' j sl e
  · have fix : ∀ {j : Nat} {m1 : Bool} {c1 : Cn}, (ρ.set i (.own m c'))[j]? = some (.own m1 c1) → ∃ m2 c2, ρ[j]? = some (.own m2 c2) := fun {j m1 c1} e => by
      by_cases z : i = j
      · subst z; exact ⟨m, c, h⟩
      · rw [List.getElem?_set_ne z] at e; exact ⟨m1, c1, e⟩
    obtain ⟨_, _, e1⟩ := fix q1
    obtain ⟨_, _, e2⟩ := fix q2
    exact r.dist j k _ _ _ _ n e1 e2
/-- what a test leaves -/
theorem back_grow {T T1 : Hp} (g : Grow H T H1 T1) (h : Same S T) : Grow H S H1 S := ⟨g.hh, .refl _, (h.trans g.ss).trans g.sh, fun _ _ => rfl⟩
end
end NL

/-! The walk of the blocks: waiting (objects of the def's own in a list of its own), done (lists likewise). -/
namespace NL
open PySem PySem.Spec L2
open PyProof.Rows hiding St
variable [KC]
/-- an open block: its object, the object's dict, its list of places; nail, turns, places -/
structure Ob where
  p : Addr
  dx : Addr
  l : Addr
  n : Str
  t : Int
  is : List Int
abbrev Dn := Addr × List Int
structure BS where
  ρ : Ev
  st : List Ob
  dn : List Dn
def wtD (st : List Ob) : Cn := .lst (st.reverse.map fun e => D.ref e.p)
def dnD (dn : List Dn) : Cn := .lst (dn.map fun e => D.ref e.1)
def yOb (e : Ob) : Yard := [(e.p, .ins (KC.ca "Open") e.dx (opF e.n e.t e.l)), (e.l, .lst (e.is.map V.int))]
def yd (st : List Ob) (dn : List Dn) : Yard := (st.flatMap yOb) ++ dn.map fun e => (e.1, HO.lst (e.2.map V.int))
def obD (e : Ob) : D := .obj "Open" ["nail", "turns", "places"] [.str e.n, .int e.t, .lst (e.is.map .int)]
def vwt (st : List Ob) : Cn := .lst (st.reverse.map obD)
def vdn (dn : List Dn) : Cn := .lst (dn.map fun e => D.lst (e.2.map .int))
def vw (b : BS) : Ev := (b.ρ.set 1 (.own false (vwt b.st))).set 2 (.own false (vdn b.dn))
def BS.up (b : BS) (st : List Ob) (dn : List Dn) : BS := ⟨(b.ρ.set 1 (.own false (wtD st))).set 2 (.own false (dnD dn)), st, dn⟩
structure RB (F : Fr) (b : BS) (σ : L2.St) (H S : Hp) : Prop where
  r : RepL F (yd b.st b.dn) b.ρ σ H S
  w : b.ρ[1]? = some (.own false (wtD b.st))
  d : b.ρ[2]? = some (.own false (dnD b.dn))
theorem dats_refs {α : Type} {S : Hp} (f : α → Addr) : ∀ (es : List α) (vs : List V), Dats S (es.map fun e => D.ref (f e)) vs ↔ vs = es.map fun e => V.ref (f e)
  | [], vs => by unfold Dats; exact Iff.rfl
  | e :: es, vs => by
    constructor
    · intro h
      unfold Dats at h
      obtain ⟨v, r, rfl, h1, h2⟩ := h
      unfold Dat at h1
      subst h1
      rw [(dats_refs f es r).mp h2]
      rfl
    · rintro rfl
      exact .cons (show Dat S (.ref (f e)) _ by unfold Dat; rfl) ((dats_refs f es _).mpr rfl)
theorem dats_ints {S : Hp} : ∀ is : List Int, Dats S (is.map .int) (is.map V.int)
  | [] => .nil
  | i :: is => .cons .i (dats_ints is)
section
variable {F : Fr} {b : BS} {σ : L2.St} {H S H1 S1 : Hp}
theorem RB.grow (r : RB F b σ H S) (g : Grow H S H1 S1) : RB F b σ H1 S1 := ⟨r.r.grow g, r.w, r.d⟩
theorem yd_ob {e : Ob} {st : List Ob} {dn : List Dn} (h : e ∈ st) : (e.p, HO.ins (KC.ca "Open") e.dx (opF e.n e.t e.l)) ∈ yd st dn ∧ (e.l, HO.lst (e.is.map V.int)) ∈ yd st dn :=
  ⟨List.mem_append_left _ (List.mem_flatMap.mpr ⟨e, h, .head _⟩), List.mem_append_left _ (List.mem_flatMap.mpr ⟨e, h, .tail _ (.head _)⟩)⟩
theorem yd_dn {e : Dn} {st : List Ob} {dn : List Dn} (h : e ∈ dn) : (e.1, HO.lst (e.2.map V.int)) ∈ yd st dn := List.mem_append_right _ (List.mem_map.mpr ⟨e, h, rfl⟩)
theorem RB.lists (r : RB F b σ H S) : (∃ w, σ[1]? = some (some (.ref w)) ∧ H w = some (.lst (b.st.reverse.map fun e => V.ref e.p)) ∧ S w = none) ∧ ∃ d, σ[2]? = some (some (.ref d)) ∧ H d = some (.lst (b.dn.map fun e => V.ref e.1)) ∧ S d = none := by
  obtain ⟨w, o, e1, e2, e3, ⟨vs, rfl, e4⟩, _⟩ := r.r.rp.own r.w
  obtain ⟨d, o', f1, f2, f3, ⟨us, rfl, f4⟩, _⟩ := r.r.rp.own r.d
  have e4 := (dats_refs _ _ _).mp e4
  have f4 := (dats_refs _ _ _).mp f4
  subst e4 f4
  exact ⟨⟨w, e1, e3, e2⟩, d, f1, f3, f2⟩
theorem RB.view (r : RB F b σ H S) : Rep F (vw b) σ H (frzS (yd b.st b.dn) H S) := by
  have q := r.r.frz
  obtain ⟨⟨w, e1, e2, _⟩, d, f1, f2, _⟩ := r.lists
  have at' : ∀ x ∈ yd b.st b.dn, frzS (yd b.st b.dn) H S x.1 = some x.2 := fun x hx => (frzS_in hx).trans (r.r.y.at' x hx).1
  have r1 := q.told (c' := vwt b.st) r.w e1 e2 ⟨_, rfl, by
    have : ∀ es : List Ob, (∀ e ∈ es, e ∈ b.st) → Dats (frzS (yd b.st b.dn) H S) (es.map obD) (es.map fun e => V.ref e.p) := fun es => by
      induction es with
      | nil => exact fun _ => .nil
      | cons e es ih =>
        intro h
        refine .cons ?_ (ih fun x hx => h x (.tail _ hx))
        obtain ⟨m1, m2⟩ := yd_ob (dn := b.dn) (h e (.head _))
        unfold obD Dat
        refine ⟨e.p, e.dx, _, rfl, at' _ m1, rfl, .cons .s (.cons .i (.one ?_))⟩
        unfold Dat
        exact ⟨e.l, _, rfl, at' _ m2, dats_ints _⟩
    exact this _ fun e he => List.mem_reverse.mp he⟩
  have h2 : (b.ρ.set 1 (.own false (vwt b.st)))[2]? = some (.own false (dnD b.dn)) := by
    rw [List.getElem?_set_ne (by decide)]
    exact r.d
  exact r1.told (c' := vdn b.dn) h2 f1 f2 ⟨_, rfl, by
    have : ∀ es : List Dn, (∀ e ∈ es, e ∈ b.dn) → Dats (frzS (yd b.st b.dn) H S) (es.map fun e => D.lst (e.2.map .int)) (es.map fun e => V.ref e.1) := fun es => by
      induction es with
      | nil => exact fun _ => .nil
      | cons e es ih =>
        intro h
        refine .cons ?_ (ih fun x hx => h x (.tail _ hx))
        unfold Dat
        exact ⟨e.1, _, rfl, at' _ (yd_dn (h e (.head _))), dats_ints _⟩
    exact this _ fun e he => he⟩
theorem set_same {i : Nat} {s : Sl} {ρ : Ev} (h : ρ[i]? = some s) : ρ.set i s = ρ := by
  refine List.ext_getElem? fun j => ?_
  by_cases z : i = j
  · subst z
    rw [List.getElem?_set_self (List.getElem?_eq_some_iff.mp h).1, h]
  · rw [List.getElem?_set_ne z]
theorem up_at (st : List Ob) (dn : List Dn) (h1 : (1 : Nat) < b.ρ.length) (h2 : 2 < b.ρ.length) : (b.up st dn).ρ[1]? = some (.own false (wtD st)) ∧ (b.up st dn).ρ[2]? = some (.own false (dnD dn)) := by
  refine ⟨?_, ?_⟩
  · show ((b.ρ.set 1 _).set 2 _)[1]? = _
    rw [List.getElem?_set_ne (by decide), List.getElem?_set_self h1]
  · show ((b.ρ.set 1 _).set 2 _)[2]? = _
    rw [List.getElem?_set_self (by simpa using h2)]
theorem RB.lens (r : RB F b σ H S) : (1 : Nat) < b.ρ.length ∧ 2 < b.ρ.length := ⟨(List.getElem?_eq_some_iff.mp r.w).1, (List.getElem?_eq_some_iff.mp r.d).1⟩
/-- both lists as they are to be told -/
theorem RB.of {b' : BS} {st : List Ob} {dn : List Dn} (l1 : (1 : Nat) < b.ρ.length) (l2 : 2 < b.ρ.length) (r : RepL F (yd st dn) (b.up st dn).ρ σ H S) : RB F (b.up st dn) σ H S := ⟨r, (up_at st dn l1 l2).1, (up_at st dn l1 l2).2⟩
end

/-- nothing is raised -/
def XN : XS := fun _ => False
theorem exOkN {mg : Str → Option Value} {E : XK} {H S : Hp} : ExOk mg E XN H S := fun _ _ _ _ z => z.elim
abbrev WB := (BS → Prop) → (BS → Prop) → BS → Prop
structure SB (X : Cx) (E : XK) (st : Stmt) (w : WB) : Prop where
  ex : ∃ t, PS X st t ∧ ∀ (nx ct : BS → Prop) (b : BS), w nx ct b → ∀ (F : Fr) (σ : L2.St) (H S : Hp) (D : Ends), RB F b σ H S →
    (∀ b σ H S, nx b → RB F b σ H S → D.nx σ H) → (∀ b σ H S, ct b → RB F b σ H S → D.ct σ H) → t D σ H
structure SBs (X : Cx) (E : XK) (st : List Stmt) (w : WB) : Prop where
  ex : ∃ t, PSs X st t ∧ ∀ (nx ct : BS → Prop) (b : BS), w nx ct b → ∀ (F : Fr) (σ : L2.St) (H S : Hp) (D : Ends), RB F b σ H S →
    (∀ b σ H S, nx b → RB F b σ H S → D.nx σ H) → (∀ b σ H S, ct b → RB F b σ H S → D.ct σ H) → t D σ H
section
variable {X : Cx} {E : XK} {st : Stmt} {sts : List Stmt} {e a c o : Expr} {pos : Pos} {w w' wa wb we : WE} {wt : WT} {ws wu : WB} {wl : WL}
def wbNil : WB := fun nx _ b => nx b
def wbCnt : WB := fun _ ct b => ct b
def wbSeq (w1 w2 : WB) : WB := fun nx ct b => w1 (w2 nx ct) ct b
def wbIf (wt : WT) (wa wb : WB) : WB := fun nx ct b => wt XN (vw b) fun k => Br k (wa nx ct b) (wb nx ct b) ⟨⟩ ⟨⟩
theorem sbs_nil : SBs X E [] wbNil := ⟨_, pss_nil, fun nx ct b hw F σ H S D rb h1 h2 => h1 b σ H S hw rb⟩
theorem sb_cont : SB X E (.Continue pos) wbCnt := ⟨_, ps_continue, fun nx ct b hw F σ H S D rb h1 h2 => h2 b σ H S hw rb⟩
theorem sbs_cons (h1 : SB X E st ws) (h2 : SBs X E sts wu) : SBs X E (st :: sts) (wbSeq ws wu) := by
  obtain ⟨t, p, s⟩ := h1.ex
  obtain ⟨t', p', s'⟩ := h2.ex
  refine ⟨_, pss_cons p p', fun nx ct b hw F σ H S D rb k1 k2 => ?_⟩
  exact s _ _ b hw F σ H S _ rb (fun b1 σ1 H1 S1 q r => s' nx ct b1 q F σ1 H1 S1 D r k1 k2) k2
theorem sbs_one (h1 : SB X E st ws) : SBs X E [st] ws := by
  obtain ⟨t, p, s⟩ := h1.ex
  exact ⟨_, pss_one p, s⟩
theorem sb_if {p1 p2 : List Stmt} (hc : TD X E c wt) (ha : SBs X E p1 ws) (hb : SBs X E p2 wu) : SB X E (.If c p1 p2 pos) (wbIf wt ws wu) := by
  obtain ⟨t, p, s⟩ := hc.ex
  obtain ⟨ta, pa, sa⟩ := ha.ex
  obtain ⟨tb, pb, sb⟩ := hb.ex
  refine ⟨_, ps_if p pa pb, fun nx ct b hw F σ H S D rb k1 k2 => ?_⟩
  refine s XN (vw b) _ hw F σ H _ _ rb.view exOkN fun k H1 S1 q1 g1 => ?_
  have r1 := rb.grow (back_grow g1 (frzS_same rb.r))
  cases k with
  | true => exact iteT (sa nx ct b q1 F σ H1 S D r1 k1 k2)
  | false => exact iteF (sb nx ct b q1 F σ H1 S D r1 k1 k2)
/-- done.append([..ints]) -/
def wbDone (wl : WL) : WB := fun nx _ b => wl XN b.ρ fun xs => ∃ is : List Int, xs = is.map .int ∧ b.dn.length < sizeLine ∧ ∀ l, nx (b.up b.st (b.dn ++ [(l, is)]))
theorem sb_done {x : Str} {p apos mpos : Pos} (ha : DF X E e wl)
    (hN : X.N[2]? = some x := by rfl) (hv : Vis X.env.scope x := by first | exact Or.inl rfl | exact Or.inr (Or.inl rfl) | exact Or.inr (Or.inr rfl)) (hd : (x == ("__debug__" : Str)) = false := by decide) (hcd : (x == ("__classdict__" : Str)) = false := by decide)
    (hbase : attributeBase (.Name x p) "append" X.env (eval (.Name x p) X.env) = eval (.Name x p) X.env := by rfl)
    (hfew : ((backTo mpos (starEach (e :: []) X.env)).all (fun x => !x.1) && (backToKw mpos (keywordEach [] X.env)).all (fun x => x.1.isSome)
      && decide ((e :: ([] : List Expr)).length + ([] : List Keyword).length + (if ([] : List Keyword).isEmpty then 0 else 1) < 30)) = true := by rfl)
    (hline : (apos.endLine == mpos.line) = true := by rfl) (hst : starEach (e :: []) X.env = (false, eval e X.env) :: starEach [] X.env := by rfl) (hplain : (backTo mpos (starEach ([] : List Expr) X.env)).any (·.1) = false := by rfl)
    (hs : swapsWith (.Call (.Attribute (.Name x p) "append" apos) [e] [] mpos) none pos.line X.env = pure false := by rfl) :
    SB X E (.Expr (.Call (.Attribute (.Name x p) "append" apos) [e] [] mpos) pos) (wbDone wl) := by
  obtain ⟨t, pt, s⟩ := ha.ex
  refine ⟨_, ps_expr (pe_bm PySem.F.plainAttrs_list PySem.F.slot_list_append PySem.F.type_list_append mt_append (pe_var hN hv hd hcd) (pa_cons pt pa_nil hst) hbase hfew hline hst hplain) hs, fun nx ct b hw F σ H S D rb k1 k2 => ?_⟩
  obtain ⟨_, d, f1, f2, f3⟩ := rb.lists
  refine ⟨.ref d, f1, .inl ⟨rfl, _, .of f2⟩, ?_⟩
  refine s XN b.ρ _ hw F σ H S _ rb.r.rp exOkN fun xs l vs H1 S1 q1 g1 h0 h1 h2 hd => ?_
  obtain ⟨is, rfl, hlen, q⟩ := q1
  obtain ⟨l1, l2⟩ := rb.lens
  have ev : vs = is.map V.int := by
    have : ∀ (is : List Int) (vs : List V), Dats S1 (is.map .int) vs → vs = is.map V.int := fun is => by
      induction is with
      | nil => intro vs h; unfold Dats at h; exact h
      | cons i is ih =>
        intro vs h
        unfold Dats at h
        obtain ⟨v, r, rfl, z1, z2⟩ := h
        unfold Dat at z1
        rw [z1, ih r z2]
        rfl
    exact this is vs hd
  subst ev
  have r1 := (rb.r.new g1 h0 h1 h2 ⟨fun _ z => (by cases z), fun _ z => (by cases z)⟩).perm (L' := yd b.st (b.dn ++ [(l, is)])) (by
    unfold yd
    rw [List.map_append, ← List.append_assoc]
    exact (List.perm_append_singleton _ _).symm)
  have r2 := r1.set (c' := dnD (b.dn ++ [(l, is)])) (o' := .lst ((b.dn ++ [(l, is)]).map fun e => V.ref e.1)) rb.d f1 ⟨_, rfl, (dats_refs _ _ _).mpr rfl⟩
  refine ⟨d, _, .ref l, rfl, rfl, g1.hh.lst f2, by rw [List.length_map]; exact hlen, ?_⟩
  have e : (b.dn ++ [(l, is)]).map (fun e => V.ref e.1) = b.dn.map (fun e => V.ref e.1) ++ [V.ref l] := by rw [List.map_append]; rfl
  rw [← e]
  refine k1 _ _ _ S1 (q l) (RB.of (b' := b) l1 l2 ?_)
  show RepL F _ ((b.ρ.set 1 _).set 2 _) _ _ _
  rw [set_same rb.w]
  exact r2
/-- waiting.append(Open(e)) -/
def wbWait (wl : WL) : WB := fun nx _ b => wl XN b.ρ fun ds => ∃ s, ds = [.str s] ∧ b.st.length < sizeLine ∧ ∀ p dx l, nx (b.up (⟨p, dx, l, s, 0, []⟩ :: b.st) b.dn)
theorem sb_wait {x C : Str} {p p2 apos mpos cpos : Pos} {f : Addr} {fd : FuncData} {ps : List Str} {k : Nat} (M : Mk X.K (KC.ca "Open") f) (G : FnOk X.prog X.w X.K X.mg X.base (L2N.CX X.prog X.w) k f fd ps (spOpenI (KC.ca "Open"))) (hr : Room (k + 1) X.A) (xk : XOk X E) (hg : Gl X C) (hm : X.mg C = some (.ref (KC.ca "Open"))) (hb : Binds X.K fd ps [])
    (ha : AD X E [e] wl) (hdb : (C == ("__debug__" : Str)) = false := by decide) (he : starEach (e :: []) X.env = (false, eval e X.env) :: starEach [] X.env := by rfl) (hpl : (backTo cpos (starEach ([] : List Expr) X.env)).any (·.1) = false := by rfl)
    (hN : X.N[1]? = some x := by rfl) (hv : Vis X.env.scope x := by first | exact Or.inl rfl | exact Or.inr (Or.inl rfl) | exact Or.inr (Or.inr rfl)) (hd : (x == ("__debug__" : Str)) = false := by decide) (hcd : (x == ("__classdict__" : Str)) = false := by decide)
    (hbase : attributeBase (.Name x p) "append" X.env (eval (.Name x p) X.env) = eval (.Name x p) X.env := by rfl)
    (hfew : ((backTo mpos (starEach ((.Call (.Name C p2) [e] [] cpos) :: []) X.env)).all (fun x => !x.1) && (backToKw mpos (keywordEach [] X.env)).all (fun x => x.1.isSome)
      && decide (((.Call (.Name C p2) [e] [] cpos) :: ([] : List Expr)).length + ([] : List Keyword).length + (if ([] : List Keyword).isEmpty then 0 else 1) < 30)) = true := by rfl)
    (hline : (apos.endLine == mpos.line) = true := by rfl) (hst : starEach ((.Call (.Name C p2) [e] [] cpos) :: []) X.env = (false, eval (.Call (.Name C p2) [e] [] cpos) X.env) :: starEach [] X.env := by rfl) (hplain : (backTo mpos (starEach ([] : List Expr) X.env)).any (·.1) = false := by rfl)
    (hs : swapsWith (.Call (.Attribute (.Name x p) "append" apos) [.Call (.Name C p2) [e] [] cpos] [] mpos) none pos.line X.env = pure false := by rfl) :
    SB X E (.Expr (.Call (.Attribute (.Name x p) "append" apos) [.Call (.Name C p2) [e] [] cpos] [] mpos) pos) (wbWait wl) := by
  obtain ⟨t, pt, s⟩ := ha.ex
  refine ⟨_, ps_expr (pe_bm PySem.F.plainAttrs_list PySem.F.slot_list_append PySem.F.type_list_append mt_append (pe_var hN hv hd hcd) (pa_cons (pe_make M G hr hg hm hb .nil xk.pass pt hdb he hpl) pa_nil hst) hbase hfew hline hst hplain) hs, fun nx ct b hw F σ H S D rb k1 k2 => ?_⟩
  obtain ⟨⟨w, f1, f2, f3⟩, _⟩ := rb.lists
  obtain ⟨l1, l2⟩ := rb.lens
  refine ⟨.ref w, f1, .inl ⟨rfl, _, .of f2⟩, ?_⟩
  refine s XN b.ρ _ hw F σ H S _ rb.r.rp exOkN fun ds vs H1 S1 q1 g1 h1 => ?_
  obtain ⟨n, rfl, hlen, q⟩ := q1
  unfold Dats Dats at h1
  obtain ⟨v, _, rfl, hz, rfl⟩ := h1
  unfold Dat at hz
  subst hz
  intro y dx hy hdx ne
  refine ⟨y, n, dx, rfl, upd_same, fun l hl => ⟨rfl, ?_⟩⟩
  have r1 := rb.r.grow g1
  have nl : l ≠ y := fun z => by rw [z, upd_same] at hl; cases hl
  have hl1 : upd H1 dx (.own y) l = none := by rw [upd_ne nl] at hl; exact hl
  have g2 : Grow H1 S1 (upd (upd H1 dx (.own y)) y (.ins (KC.ca "Open") dx [])) S1 := ((Grow.refl g1.sh).lay hdx).lay (by rw [upd_ne (fun z => ne z.symm)]; exact hy)
  have r2 := r1.new (a := y) (o := .ins (KC.ca "Open") dx []) g2 hy (g1.sh.free hy) upd_same ⟨fun _ z => (by cases z), fun _ z => (by cases z)⟩
  have g3 := (Grow.refl r2.rp.sh).lay (o := .lst []) hl
  have r3 := (r2.new (a := l) (o := .lst []) g3 hl (r2.rp.sh.free hl) upd_same ⟨fun _ z => (by cases z), fun _ z => (by cases z)⟩).perm (.swap _ _ _)
  have r4 := r3.put (o' := .ins (KC.ca "Open") dx (opF n 0 l)) ⟨fun _ z => (by cases z), fun _ z => (by cases z)⟩
  have r5 := r4.set (c' := wtD (⟨y, dx, l, n, 0, []⟩ :: b.st)) (o' := .lst ((⟨y, dx, l, n, 0, []⟩ :: b.st : List Ob).reverse.map fun e => V.ref e.p)) rb.w f1 ⟨_, rfl, (dats_refs _ _ _).mpr rfl⟩
  have ew : (upd (upd (upd (upd H1 dx (.own y)) y (.ins (KC.ca "Open") dx [])) l (.lst [])) y (.ins (KC.ca "Open") dx (opF n 0 l))) w = some (.lst (b.st.reverse.map fun e => V.ref e.p)) := by
    have hw1 := g1.hh.lst f2
    have n1 : w ≠ y := fun z => by rw [z, hy] at hw1; cases hw1
    have hw2 := g2.hh.lst hw1
    have n2 : w ≠ l := fun z => by rw [z, hl] at hw2; cases hw2
    rw [upd_ne n1, upd_ne n2]
    exact hw2
  refine ⟨w, _, .ref y, rfl, rfl, ew, by rw [List.length_map, List.length_reverse]; exact hlen, ?_⟩
  have e : (⟨y, dx, l, n, 0, []⟩ :: b.st : List Ob).reverse.map (fun e => V.ref e.p) = b.st.reverse.map (fun e => V.ref e.p) ++ [V.ref y] := by rw [List.reverse_cons, List.map_append]; rfl
  rw [← e]
  refine k1 _ _ _ S1 (q y dx l) (RB.of (b' := b) l1 l2 ?_)
  show RepL F _ ((b.ρ.set 1 _).set 2 _) _ _ _
  rw [set_same (s := .own false (dnD b.dn)) (by rw [List.getElem?_set_ne (by decide)]; exact rb.d)]
  exact r5
/-- o.take(k, t), o an open block of the yard, the last one -/
def wbTake (wo : WE) (wl : WL) : WB := fun nx _ b => wo XN b.ρ fun d => ∃ e r, b.st = e :: r ∧ d = .ref e.p ∧ wl XN b.ρ fun ds => ∃ k t, ds = [.int k, .int t] ∧ e.is.length < sizeLine ∧ nx (b.up ({ e with t := e.t + t, is := e.is ++ [k] } :: r) b.dn)
theorem sb_take {pl : Sem Bool} {e : Expr} {es : List Expr} {apos mpos : Pos} (h : MC X "take" (KC.ca "Open") (spTake (KC.ca "Open"))) (xk : XOk X E) (ho : ED X E o w) (ha : AD X E (e :: es) wl)
    (hst : starEach (e :: es) X.env = (false, eval e X.env) :: starEach es X.env := by rfl) (hpl : (backTo mpos (starEach es X.env)).any (·.1) = false := by rfl) (ht : MTree X o "take" apos mpos (e :: es) pl := by exact rfl)
    (hs : swapsWith (.Call (.Attribute o "take" apos) (e :: es) [] mpos) none pos.line X.env = pure false := by rfl) :
    SB X E (.Expr (.Call (.Attribute o "take" apos) (e :: es) [] mpos) pos) (wbTake w wl) := by
  obtain ⟨t, pt, s⟩ := ha.ex
  obtain ⟨to, po, so⟩ := ho.ex
  refine ⟨_, ps_expr (pe_methV (ok := fun C u => C = KC.ca "Open" ∧ u = spTake (KC.ca "Open")) po (fun C u ⟨e1, e2⟩ => by subst e1 e2; exact h) xk.pass pt hst hpl ht) hs, fun nx ct b hw F σ H S D rb k1 k2 => ?_⟩
  obtain ⟨l1, l2⟩ := rb.lens
  refine so XN b.ρ _ hw F σ H S _ rb.r.rp exOkN fun d u H1 S1 q1 g1 h1 => ?_
  obtain ⟨e, r, hst', rfl, q1⟩ := q1
  unfold Dat at h1
  subst h1
  have r1 := rb.r.grow g1
  have m := yd_ob (e := e) (st := b.st) (dn := b.dn) (by rw [hst']; exact .head _)
  refine ⟨e.p, _, e.dx, _, _, rfl, (r1.y.at' _ m.1).1, opF_take _ _ _, ⟨rfl, rfl⟩, ?_⟩
  refine s XN b.ρ _ q1 F σ H1 S1 _ r1.rp exOkN fun ds vs H2 S2 q2 g2 h2 => ?_
  obtain ⟨k, t, rfl, hlen, q2⟩ := q2
  have r2 := r1.grow g2
  have hv : vs = [.int k, .int t] := by
    unfold Dats Dats Dats at h2
    obtain ⟨v, _, rfl, z1, v', _, rfl, z2, rfl⟩ := h2
    unfold Dat at z1 z2
    rw [z1, z2]
  subst hv
  refine ⟨e.p, k, t, e.n, e.t, e.l, e.dx, e.is.map V.int, rfl, (r2.y.at' _ m.1).1, (r2.y.at' _ m.2).1, by rw [List.length_map]; exact hlen, ?_⟩
  have ey : yd b.st b.dn = (e.p, HO.ins (KC.ca "Open") e.dx (opF e.n e.t e.l)) :: (e.l, HO.lst (e.is.map V.int)) :: yd r b.dn := by rw [hst']; rfl
  rw [ey] at r2
  have r3 := (r2.put (o' := .ins (KC.ca "Open") e.dx (opF e.n (e.t + t) e.l)) ⟨fun _ z => (by cases z), fun _ z => (by cases z)⟩).perm (.swap _ _ _)
  have r4 := (r3.put (o' := .lst (e.is.map V.int ++ [V.int k])) ⟨fun _ z => (by cases z), fun _ z => (by cases z)⟩).perm (.swap _ _ _)
  refine k1 _ _ _ S2 q2 (RB.of (b' := b) l1 l2 ?_)
  show RepL F _ ((b.ρ.set 1 _).set 2 _) _ _ _
  have ew : wtD ({ e with t := e.t + t, is := e.is ++ [k] } :: r) = wtD b.st := by
    rw [hst']
    unfold wtD
    rw [List.reverse_cons, List.reverse_cons, List.map_append, List.map_append]
    rfl
  rw [ew, set_same rb.w, set_same rb.d]
  have ez : yd ({ e with t := e.t + t, is := e.is ++ [k] } :: r) b.dn = (e.p, HO.ins (KC.ca "Open") e.dx (opF e.n (e.t + t) e.l)) :: (e.l, HO.lst (e.is.map V.int ++ [V.int k])) :: yd r b.dn := by
    show (e.p, _) :: (e.l, HO.lst ((e.is ++ [k]).map V.int)) :: _ = _
    rw [List.map_append]
    rfl
  rw [ez]
  exact r4
/-- done.append(waiting.pop().places) -/
def wbPop : WB := fun nx _ b => ∃ e r, b.st = e :: r ∧ b.dn.length < sizeLine ∧ nx (b.up r (b.dn ++ [(e.l, e.is)]))
theorem sb_pop {x y : Str} {p p2 apos mpos fpos bpos qpos : Pos} (cl : Cls X.K (KC.ca "Open")) (na : NoAttr X.K (KC.ca "Open") "places")
    (hN : X.N[2]? = some x := by rfl) (hv : Vis X.env.scope x := by first | exact Or.inl rfl | exact Or.inr (Or.inl rfl) | exact Or.inr (Or.inr rfl)) (hd : (x == ("__debug__" : Str)) = false := by decide) (hcd : (x == ("__classdict__" : Str)) = false := by decide)
    (hNy : X.N[1]? = some y := by rfl) (hvy : Vis X.env.scope y := by first | exact Or.inl rfl | exact Or.inr (Or.inl rfl) | exact Or.inr (Or.inr rfl)) (hdy : (y == ("__debug__" : Str)) = false := by decide) (hcdy : (y == ("__classdict__" : Str)) = false := by decide)
    (hby : attributeBase (.Name y p2) "pop" X.env (eval (.Name y p2) X.env) = eval (.Name y p2) X.env := by rfl) (hly : (bpos.endLine == qpos.line) = true := by rfl)
    (hbf : attributeBase (.Call (.Attribute (.Name y p2) "pop" bpos) [] [] qpos) "places" X.env (eval (.Call (.Attribute (.Name y p2) "pop" bpos) [] [] qpos) X.env) = eval (.Call (.Attribute (.Name y p2) "pop" bpos) [] [] qpos) X.env := by rfl)
    (hbase : attributeBase (.Name x p) "append" X.env (eval (.Name x p) X.env) = eval (.Name x p) X.env := by rfl)
    (hfew : ((backTo mpos (starEach ((.Attribute (.Call (.Attribute (.Name y p2) "pop" bpos) [] [] qpos) "places" fpos) :: []) X.env)).all (fun x => !x.1) && (backToKw mpos (keywordEach [] X.env)).all (fun x => x.1.isSome)
      && decide (((.Attribute (.Call (.Attribute (.Name y p2) "pop" bpos) [] [] qpos) "places" fpos) :: ([] : List Expr)).length + ([] : List Keyword).length + (if ([] : List Keyword).isEmpty then 0 else 1) < 30)) = true := by rfl)
    (hline : (apos.endLine == mpos.line) = true := by rfl) (hst : starEach ((.Attribute (.Call (.Attribute (.Name y p2) "pop" bpos) [] [] qpos) "places" fpos) :: []) X.env = (false, eval (.Attribute (.Call (.Attribute (.Name y p2) "pop" bpos) [] [] qpos) "places" fpos) X.env) :: starEach [] X.env := by rfl) (hplain : (backTo mpos (starEach ([] : List Expr) X.env)).any (·.1) = false := by rfl)
    (hs : swapsWith (.Call (.Attribute (.Name x p) "append" apos) [.Attribute (.Call (.Attribute (.Name y p2) "pop" bpos) [] [] qpos) "places" fpos] [] mpos) none pos.line X.env = pure false := by rfl) :
    SB X E (.Expr (.Call (.Attribute (.Name x p) "append" apos) [.Attribute (.Call (.Attribute (.Name y p2) "pop" bpos) [] [] qpos) "places" fpos] [] mpos) pos) wbPop := by
  refine ⟨_, ps_expr (pe_bm PySem.F.plainAttrs_list PySem.F.slot_list_append PySem.F.type_list_append mt_append (pe_var hN hv hd hcd) (pa_cons (pe_fld (pe_bm0 PySem.F.plainAttrs_list PySem.F.slot_list_pop PySem.F.type_list_pop mt_pop (pe_var hNy hvy hdy hcdy) hby hly) hbf) pa_nil hst) hbase hfew hline hst hplain) hs, fun nx ct b hw F σ H S D rb k1 k2 => ?_⟩
  obtain ⟨⟨w, f1, f2, f3⟩, d, g1, g2, g3⟩ := rb.lists
  obtain ⟨l1, l2⟩ := rb.lens
  obtain ⟨e, r, hst', hlen, q⟩ := hw
  have m := yd_ob (e := e) (st := b.st) (dn := b.dn) (by rw [hst']; exact .head _)
  have er : b.st.reverse.map (fun e => V.ref e.p) = r.reverse.map (fun e => V.ref e.p) ++ [V.ref e.p] := by rw [hst', List.reverse_cons, List.map_append]; rfl
  rw [er] at f2
  have r1 := rb.r.set (c' := wtD r) (o' := .lst (r.reverse.map fun e => V.ref e.p)) rb.w f1 ⟨_, rfl, (dats_refs _ _ _).mpr rfl⟩
  refine ⟨.ref d, g1, .inl ⟨rfl, _, .of g2⟩, ?_⟩
  refine ⟨.ref w, f1, .inl ⟨rfl, _, .of f2⟩, w, _, .ref e.p, rfl, rfl, f2, by simp, ?_⟩
  rw [List.dropLast_concat]
  refine ⟨e.p, _, e.dx, _, .ref e.l, rfl, (r1.y.at' _ m.1).1, cl, na, opF_places _ _ _, ?_⟩
  have ey : yd b.st b.dn = (e.p, HO.ins (KC.ca "Open") e.dx (opF e.n e.t e.l)) :: (e.l, HO.lst (e.is.map V.int)) :: yd r b.dn := by rw [hst']; rfl
  rw [ey] at r1
  have r2 := r1.drop.perm (L' := yd r (b.dn ++ [(e.l, e.is)])) (by
    unfold yd
    rw [List.map_append, ← List.append_assoc]
    exact (List.perm_append_singleton _ _).symm)
  have hd2 : (b.ρ.set 1 (.own false (wtD r)))[2]? = some (.own false (dnD b.dn)) := by rw [List.getElem?_set_ne (by decide)]; exact rb.d
  have r3 := r2.set (c' := dnD (b.dn ++ [(e.l, e.is)])) (o' := .lst ((b.dn ++ [(e.l, e.is)]).map fun e => V.ref e.1)) hd2 g1 ⟨_, rfl, (dats_refs _ _ _).mpr rfl⟩
  have nwd : d ≠ w := fun z => rb.r.rp.dist 1 2 _ _ _ _ (by decide) rb.w rb.d (by rw [f1, g1, z])
  refine ⟨d, _, .ref e.l, rfl, rfl, by rw [upd_ne nwd]; exact g2, by rw [List.length_map]; exact hlen, ?_⟩
  have e' : (b.dn ++ [(e.l, e.is)]).map (fun e => V.ref e.1) = b.dn.map (fun e => V.ref e.1) ++ [V.ref e.l] := by rw [List.map_append]; rfl
  rw [← e']
  exact k1 _ _ _ S q (RB.of (b' := b) l1 l2 r3)
/-- for .. in ..: the blocks come about -/
def noM (ρ : Ev) : Prop := ∀ (i : Nat) (c : Cn), ρ[i]? ≠ some (Sl.own true c)
def wBlk (wi : WL) (g : WG) (wB : WB) : WS := fun q ρ => noM ρ ∧ ρ[1]? = some (.own false (.lst [])) ∧ ρ[2]? = some (.own false (.lst [])) ∧ wi q.ex ρ fun ds => ∃ I : Nat → BS → Prop, I 0 ⟨ρ, [], []⟩ ∧
  (∀ i d b, ds[i]? = some d → I i b → g d b.ρ fun ρ' => ρ'[1]? = b.ρ[1]? ∧ ρ'[2]? = b.ρ[2]? ∧ wB (I (i + 1)) (I (i + 1)) { b with ρ := ρ' }) ∧ ∀ b, I ds.length b → q.nx (vw b)
theorem sd_blk {tg iter : Expr} {is : List Nat} {g : WG} {wi : WL} {body : List Stmt} {wB : WB} (xk : XOk X E) (hc : X.calm = true) (hi : ID X E tg iter wi) (hg : GD X tg is g) (hb : SBs X E body wB) (hs : ∀ x, foldedSetIterable iter X.env x = pure x := by intro _; rfl) :
    SD X E (.For tg iter body [] pos) (wBlk wi g wB) := by
  obtain ⟨ti, pti, si⟩ := hi.ex
  obtain ⟨tg, pg, sg⟩ := hg.ex
  obtain ⟨tb, pb, sb⟩ := hb.ex
  refine ⟨_, ps_for xk.own hc pti pg pb hs, fun q ρ hw F σ H S D rp o => ?_⟩
  obtain ⟨nm, e1, e2, hw⟩ := hw
  refine si q.ex ρ _ hw F σ H S _ rp (o.exOk rp) fun ds J H1 S1 q1 g1 hJ => ?_
  obtain ⟨I, I0, step, fin⟩ := q1
  have rp1 := rp.grow g1
  have ss1 := rp1.fg.ss
  have nw1 := rp1.fg.nw
  have rb0 : RB { F with S0 := S1 } ⟨ρ, [], []⟩ σ H1 S1 := ⟨⟨rep_to rp1, nm, ⟨.nil, fun x hx => by cases hx⟩, fun x hx => by cases hx⟩, e1, e2⟩
  let W : Nat → Nat → L2.St → Hp → Prop := fun i m σ H => m = ds.length - i ∧ i ≤ ds.length ∧ ∃ b S, RB { F with S0 := S1 } b σ H S ∧ I i b
  refine ⟨W, ⟨ds.length, by simp, Nat.zero_le _, _, S1, rb0, I0⟩, ?_⟩
  rintro i m σ2 H2 ⟨rfl, hi, b, S2, r2, hl⟩
  rcases Nat.lt_or_ge i ds.length with hlt | hge
  · obtain ⟨d, hdi⟩ : ∃ d, ds[i]? = some d := ⟨_, List.getElem?_eq_getElem hlt⟩
    obtain ⟨go, yl⟩ := (hJ i H2 S2 r2.r.rp.fg.ss r2.r.rp.fg.sh).1 d hdi
    refine .inr ⟨go, W (i + 1) (ds.length - (i + 1)), fun σ' H' h => ⟨_, by omega, h⟩, fun x H' y => ?_⟩
    obtain ⟨S', g', dx⟩ := yl x H' y
    have r3 := r2.grow g'
    refine sg d b.ρ _ (step i d b hdi hl) (reb { F with S0 := S1 } b.ρ σ2 H' S') σ2 H' S' x _ (reb_to r3.r) dx fun ρ3 σ3 h3 r4 _ => ?_
    have r5 := reb_of r3.r r4
    refine sb _ _ _ h3.2.2 { F with S0 := S1 } σ3 H' S' _ ⟨r5, h3.1.trans r3.w, h3.2.1.trans r3.d⟩ (fun b4 σ4 H4 S4 q4 r4 => ⟨rfl, hlt, b4, S4, r4, q4⟩) fun b4 σ4 H4 S4 q4 r4 => ⟨rfl, hlt, b4, S4, r4, q4⟩
  · have e : i = ds.length := by omega
    subst e
    exact .inl ⟨(hJ _ H2 S2 r2.r.rp.fg.ss r2.r.rp.fg.sh).2 (Nat.le_refl _), o.nx (vw b) σ2 H2 _ (fin b hl) (rep_in r2.view ss1 nw1)⟩
end
end NL

/-! A new list of new lists, told by a def; changed by its asker. -/
namespace NL
open PySem PySem.Spec L2
open PyProof.Rows hiding St
variable [KC]
def sorL (L : List (List Int)) : List (List Int) := L.mergeSort fun a b => dle (.lst (a.map .int)) (.lst (b.map .int))
def lsY (q : Addr) (dn : List Dn) : Yard := (q, .lst (dn.map fun e => V.ref e.1)) :: yd [] dn
structure News (H H' : Hp) (L : Yard) : Prop where
  nd : (L.map (·.1)).Nodup
  at' : ∀ x ∈ L, H' x.1 = some x.2 ∧ H x.1 = none ∧ ntb x.2
abbrev SpecN := List D → (List (List Int) → Prop) → Prop
def spNew (sp : SpecN) : Sp := fun vs H Q _ => ∃ ds S R, (Same S H ∧ Tbq S H) ∧ Dats S ds vs ∧ sp ds R ∧ ∀ q dn H', R (dn.map (·.2)) → Grow H S H' S → News H H' (lsY q dn) → Q (.ref q) H'
section
variable {F : Fr} {L : Yard} {ρ : Ev} {σ : L2.St} {H S H1 S1 : Hp}
theorem RepL.unset {j : Nat} {x : Option V} (r : RepL F L ρ σ H S) : RepL F L (ρ.set j .un) (σ.set j x) H S := by
  have back : ∀ {k : Nat} {m : Bool} {c : Cn}, (ρ.set j .un)[k]? = some (Sl.own m c) → j ≠ k ∧ ρ[k]? = some (Sl.own m c) := fun {k m c} e => by
    by_cases z : j = k
    · subst z
      rw [List.getElem?_set] at e
      simp at e
    · rw [List.getElem?_set_ne z] at e
      exact ⟨z, e⟩
  refine ⟨r.rp.unset, fun k c e => r.nm k c (back e).2, r.y, fun y hy ⟨k, m, c, e1, e2⟩ => ?_⟩
  obtain ⟨z, e1⟩ := back e1
  rw [List.getElem?_set_ne z] at e2
  exact r.ap y hy ⟨k, m, c, e1, e2⟩
theorem Rep.tell {i : Nat} {d : D} {v : V} (r : Rep F (ρ.set i .un) σ H S) (hi : i < ρ.length) (e : σ[i]? = some (some v)) (h : Dat S d v) : Rep F (ρ.set i (.fz d)) σ H S := by
  have q := r.set (i := i) h
  rw [List.set_set] at q
  have : σ.set i (some v) = σ := by
    refine List.ext_getElem? fun k => ?_
    by_cases z : i = k
    · subst z
      rw [List.getElem?_set_self (List.getElem?_eq_some_iff.mp e).1, e]
    · rw [List.getElem?_set_ne z]
  rwa [this] at q
theorem dat_ls {T : Hp} {q : Addr} {dn : List Dn} (h : ∀ x ∈ lsY q dn, T x.1 = some x.2) : Dat T (.lst (dn.map fun e => NL.D.lst (e.2.map .int))) (.ref q) := by
  unfold Dat
  refine ⟨q, _, rfl, h _ (.head _), ?_⟩
  have : ∀ es : List Dn, (∀ e ∈ es, e ∈ dn) → Dats T (es.map fun e => NL.D.lst (e.2.map .int)) (es.map fun e => V.ref e.1) := fun es => by
    induction es with
    | nil => exact fun _ => .nil
    | cons e es ih =>
      intro g
      refine .cons ?_ (ih fun x hx => g x (.tail _ hx))
      unfold Dat
      exact ⟨e.1, _, rfl, h _ (.tail _ (yd_dn (st := []) (g e (.head _)))), dats_ints _⟩
  exact this dn fun _ h => h
end
section
variable {X : Cx} {E : XK} {st : Stmt} {sts : List Stmt} {e a c o : Expr} {es : List Expr} {pos : Pos} {w w' wa wb we : WE} {wt : WT} {wl : WL}
structure SY (X : Cx) (E : XK) (st : Stmt) (w : (BS → Prop) → XS → Ev → Prop) : Prop where
  ex : ∃ t, PS X st t ∧ ∀ (nx : BS → Prop) (x : XS) (ρ : Ev), w nx x ρ → ∀ (F : Fr) (σ : L2.St) (H S : Hp) (D : Ends), Rep F ρ σ H S → ExOk X.mg E x H S → (∀ b σ H S, nx b → RB F b σ H S → D.nx σ H) → t D σ H
def wBlkY (wi : WL) (g : WG) (wB : WB) : (BS → Prop) → XS → Ev → Prop := fun nx x ρ => noM ρ ∧ ρ[1]? = some (.own false (.lst [])) ∧ ρ[2]? = some (.own false (.lst [])) ∧ wi x ρ fun ds => ∃ I : Nat → BS → Prop, I 0 ⟨ρ, [], []⟩ ∧
  (∀ i d b, ds[i]? = some d → I i b → g d b.ρ fun ρ' => ρ'[1]? = b.ρ[1]? ∧ ρ'[2]? = b.ρ[2]? ∧ wB (I (i + 1)) (I (i + 1)) { b with ρ := ρ' }) ∧ ∀ b, I ds.length b → nx b
theorem RB.in {F : Fr} {b : BS} {σ : L2.St} {H S S1 : Hp} (r : RB { F with S0 := S1 } b σ H S) (ss : Same F.S0 S1) (nw : ∀ a, F.H0 a ≠ none → S1 a = F.S0 a) : RB F b σ H S :=
  ⟨⟨rep_in r.r.rp ss nw, r.r.nm, ⟨r.r.y.nd, r.r.y.at'⟩, r.r.ap⟩, r.w, r.d⟩
theorem sy_blk {tg iter : Expr} {is : List Nat} {g : WG} {wi : WL} {body : List Stmt} {wB : WB} (xk : XOk X E) (hc : X.calm = true) (hi : ID X E tg iter wi) (hg : GD X tg is g) (hb : SBs X E body wB) (hs : ∀ x, foldedSetIterable iter X.env x = pure x := by intro _; rfl) :
    SY X E (.For tg iter body [] pos) (wBlkY wi g wB) := by
  obtain ⟨ti, pti, si⟩ := hi.ex
  obtain ⟨tg, pg, sg⟩ := hg.ex
  obtain ⟨tb, pb, sb⟩ := hb.ex
  refine ⟨_, ps_for xk.own hc pti pg pb hs, fun nx x ρ hw F σ H S D rp ex k => ?_⟩
  obtain ⟨nm, e1, e2, hw⟩ := hw
  refine si x ρ _ hw F σ H S _ rp ex fun ds J H1 S1 q1 g1 hJ => ?_
  obtain ⟨I, I0, step, fin⟩ := q1
  have rp1 := rp.grow g1
  have ss1 := rp1.fg.ss
  have nw1 := rp1.fg.nw
  have rb0 : RB { F with S0 := S1 } ⟨ρ, [], []⟩ σ H1 S1 := ⟨⟨rep_to rp1, nm, ⟨.nil, fun x hx => by cases hx⟩, fun x hx => by cases hx⟩, e1, e2⟩
  let W : Nat → Nat → L2.St → Hp → Prop := fun i m σ H => m = ds.length - i ∧ i ≤ ds.length ∧ ∃ b S, RB { F with S0 := S1 } b σ H S ∧ I i b
  refine ⟨W, ⟨ds.length, by simp, Nat.zero_le _, _, S1, rb0, I0⟩, ?_⟩
  rintro i m σ2 H2 ⟨rfl, hi, b, S2, r2, hl⟩
  rcases Nat.lt_or_ge i ds.length with hlt | hge
  · obtain ⟨d, hdi⟩ : ∃ d, ds[i]? = some d := ⟨_, List.getElem?_eq_getElem hlt⟩
    obtain ⟨go, yl⟩ := (hJ i H2 S2 r2.r.rp.fg.ss r2.r.rp.fg.sh).1 d hdi
    refine .inr ⟨go, W (i + 1) (ds.length - (i + 1)), fun σ' H' h => ⟨_, by omega, h⟩, fun x H' y => ?_⟩
    obtain ⟨S', g', dx⟩ := yl x H' y
    have r3 := r2.grow g'
    refine sg d b.ρ _ (step i d b hdi hl) (reb { F with S0 := S1 } b.ρ σ2 H' S') σ2 H' S' x _ (reb_to r3.r) dx fun ρ3 σ3 h3 r4 _ => ?_
    have r5 := reb_of r3.r r4
    refine sb _ _ _ h3.2.2 { F with S0 := S1 } σ3 H' S' _ ⟨r5, h3.1.trans r3.w, h3.2.1.trans r3.d⟩ (fun b4 σ4 H4 S4 q4 r4 => ⟨rfl, hlt, b4, S4, r4, q4⟩) fun b4 σ4 H4 S4 q4 r4 => ⟨rfl, hlt, b4, S4, r4, q4⟩
  · have e : i = ds.length := by omega
    subst e
    exact .inl ⟨(hJ _ H2 S2 r2.r.rp.fg.ss r2.r.rp.fg.sh).2 (Nat.le_refl _), k b σ2 H2 _ (fin b hl) (r2.in ss1 nw1)⟩
/-- if c: .., not so -/
def wbNo (wt : WT) : WB := fun nx _ b => wt XN (vw b) fun k => k = false ∧ nx b
theorem sb_no {p1 : List Stmt} (hc : TD X E c wt) (hb : ∃ t, PSs X p1 t) : SB X E (.If c p1 [] pos) (wbNo wt) := by
  obtain ⟨t, p, s⟩ := hc.ex
  obtain ⟨ta, pa⟩ := hb
  refine ⟨_, ps_if p pa pss_nil, fun nx ct b hw F σ H S D rb k1 k2 => ?_⟩
  refine s XN (vw b) _ hw F σ H _ _ rb.view exOkN fun k H1 S1 q1 g1 => ?_
  have r1 := rb.grow (back_grow g1 (frzS_same rb.r))
  obtain ⟨rfl, q1⟩ := q1
  exact iteF (k1 b σ H1 S q1 r1)
/-- return sorted(done) -/
structure SR (X : Cx) (E : XK) (st : Stmt) : Prop where
  ex : ∃ t, PS X st t ∧ ∀ (F : Fr) (b : BS) (σ : L2.St) (H S : Hp) (D : Ends), RB F b σ H S → b.st = [] → Srt1 (b.dn.map fun e => NL.D.lst (e.2.map .int)) →
    (∀ q dn' H1, dn'.map (·.2) = sorL (b.dn.map (·.2)) → RepL F (lsY q dn') b.ρ σ H1 S → D.rt (.ref q) H1) → t D σ H
theorem sr_sorted {k : Nat} {x y : Str} {p p1 p2 : Pos} (hr : Room k X.A) (hg : Gl X y) (hm : X.mg y = none) (hv : bootBuiltins y = some (.builtin "sorted"))
    (hN : X.N[2]? = some x := by rfl) (hvx : Vis X.env.scope x := by first | exact Or.inl rfl | exact Or.inr (Or.inl rfl) | exact Or.inr (Or.inr rfl)) (hd : (x == ("__debug__" : Str)) = false := by decide) (hcd : (x == ("__classdict__" : Str)) = false := by decide) (hK : X.K = KC.K := by rfl)
    (hn : y ≠ "__name__" := by decide) (hdb : (y == ("__debug__" : Str)) = false := by decide) (hst : starEach (.Name x p :: []) X.env = (false, eval (.Name x p) X.env) :: starEach [] X.env := by rfl) (hpl : (backTo p2 (starEach ([] : List Expr) X.env)).any (·.1) = false := by rfl) :
    SR X E (.Return (some (.Call (.Name y p1) [.Name x p] [] p2)) pos) := by
  refine ⟨_, ps_ret (pe_callB (cr_sortedD hr) hg hm hv (pa_cons (pe_var hN hvx hd hcd) pa_nil hst) hn hdb hst hpl), fun F b σ H S D rb hb hs k => ?_⟩
  obtain ⟨_, d, f1, f2, f3⟩ := rb.lists
  refine ⟨.ref d, f1, ?_⟩
  have hat : ∀ x ∈ yd b.st b.dn, H x.1 = some x.2 := fun x hx => (rb.r.y.at' x hx).1
  refine ⟨d, _, b.dn.map fun e => NL.D.lst (e.2.map .int), rfl, .of f2, by simp, hs, fun i dd v h1 h2 => ?_, fun q hq => ?_⟩
  · rw [List.getElem?_map] at h1 h2
    obtain ⟨e, he, rfl⟩ := Option.map_eq_some_iff.mp h1
    rw [he] at h2
    cases h2
    refine nb_dp 20 _ _ (hs.1 _ (List.mem_map.mpr ⟨e, List.mem_of_getElem? he, rfl⟩)) ?_
    unfold Dat
    exact ⟨e.1, _, rfl, hat _ (yd_dn (List.mem_of_getElem? he)), dats_ints _⟩
  · have ez : (b.dn.map fun e => V.ref e.1).zip (b.dn.map fun e => NL.D.lst (e.2.map .int)) = b.dn.map fun e => (V.ref e.1, NL.D.lst (e.2.map .int)) := by
      rw [List.zip_map']
    rw [ez]
    have em := PySem.W.sort_maps (s := fun a b : V × NL.D => dle a.2 b.2) (r := fun a b : Dn => dle (.lst (a.2.map .int)) (.lst (b.2.map .int))) (fun e : Dn => (V.ref e.1, NL.D.lst (e.2.map .int))) (l := b.dn) fun _ _ _ _ => rfl
    rw [← em, List.map_map]
    have es := PySem.W.sort_maps (s := fun a b : List Int => dle (.lst (a.map .int)) (.lst (b.map .int))) (r := fun a b : Dn => dle (.lst (a.2.map .int)) (.lst (b.2.map .int))) (fun e : Dn => e.2) (l := b.dn) fun _ _ _ _ => rfl
    refine k q (b.dn.mergeSort fun a b => dle (.lst (a.2.map .int)) (.lst (b.2.map .int))) _ es ?_
    have r1 := rb.r.new (a := q) (o := .lst ((b.dn.mergeSort fun a b => dle (.lst (a.2.map .int)) (.lst (b.2.map .int))).map fun e => V.ref e.1)) ((Grow.refl rb.r.rp.sh).lay hq) hq (rb.r.rp.sh.free hq) upd_same ⟨fun _ z => (by cases z), fun _ z => (by cases z)⟩
    refine r1.perm ?_
    unfold lsY
    refine .cons _ ?_
    rw [hb]
    exact ((List.mergeSort_perm b.dn _).symm.map fun e => (e.1, HO.lst (e.2.map V.int)))
/-- x = f(..) (a new list of new lists); if c: ..; for y in x: y.append(k); .. -/
def AskN (sp : SpecN) (ds : List D) (K : List (List Int) → Prop) : Prop := sp ds K
def wFound (i j : Nat) (sp : SpecN) (wl : WL) (wt : WT) (ws : WS) : WS := fun q ρ => noM ρ ∧ i < ρ.length ∧ j < ρ.length ∧ wl q.ex ρ fun ds => AskN sp ds fun L => (∀ is ∈ L, is.length < sizeLine) ∧ wt XN (ρ.set i (.fz (.lst (L.map fun is => NL.D.lst (is.map .int))))) fun b => b = false ∧ ws q ((ρ.set i .un).set j .un)
theorem sds_found {f : Addr} {fd : FuncData} {ps : List Str} {k : Nat} {sp : SpecN} {x y fn : Str} {kk : Int} {ek : Expr} {wk : WL} {ws : WS} {p1 p2 p3 p4 p5 p6 p7 p8 pos1 pos2 pos3 pos4 : Pos} {tb : List Stmt} (i j : Nat) (hij : i ≠ j)
    (G : FnOk X.prog X.w X.K X.mg X.base (L2N.CX X.prog X.w) k f fd ps (spNew sp)) (hr : Room k X.A) (xk : XOk X E) (hc : X.calm = true) (nd : X.N.Nodup) (hg : Gl X fn) (hm : X.mg fn = some (.ref f)) (hk : PySem.W.keepIn X.K (.ref f) = true) (hb : Binds X.K fd ps [])
    (ha : AD X E (e :: es) wl) (ht : TD X E c wt) (hbd : ∃ t, PSs X tb t) (hek : AD X E [ek] wk) (hkk : ∀ (ρ : Ev) (Q : List D → Prop), Q [.int kk] → wk XN ρ Q) (hrest : SDs X E sts ws)
    (hi : X.N[i]? = some x := by rfl) (hx : Loc X.env.scope x := by first | exact Or.inl rfl | exact Or.inr rfl) (hvx : Vis X.env.scope x := by first | exact Or.inl rfl | exact Or.inr (Or.inl rfl) | exact Or.inr (Or.inr rfl)) (hdx : (x == ("__debug__" : Str)) = false := by decide) (hcx : (x == ("__classdict__" : Str)) = false := by decide)
    (hfx : X.fn x = true ∨ X.env.scope.names.lookup x = some .local := by first | exact .inl rfl | exact .inr rfl)
    (hj : X.N[j]? = some y := by rfl) (hy : Loc X.env.scope y := by first | exact Or.inl rfl | exact Or.inr rfl) (hvy : Vis X.env.scope y := by first | exact Or.inl rfl | exact Or.inr (Or.inl rfl) | exact Or.inr (Or.inr rfl)) (hdy : (y == ("__debug__" : Str)) = false := by decide) (hcy : (y == ("__classdict__" : Str)) = false := by decide)
    (hfy : X.fn y = true ∨ X.env.scope.names.lookup y = some .local := by first | exact .inl rfl | exact .inr rfl)
    (hs1 : swapsWith (.Call (.Name fn p2) (e :: es) [] p3) (some (.Name x p1)) pos1.line X.env = pure false := by rfl)
    (hdb : (fn == ("__debug__" : Str)) = false := by decide) (he : starEach (e :: es) X.env = (false, eval e X.env) :: starEach es X.env := by rfl) (hpl : (backTo p3 (starEach es X.env)).any (·.1) = false := by rfl)
    (hbase : attributeBase (.Name y p6) "append" X.env (eval (.Name y p6) X.env) = eval (.Name y p6) X.env := by rfl)
    (hfew : ((backTo p8 (starEach (ek :: []) X.env)).all (fun x => !x.1) && (backToKw p8 (keywordEach [] X.env)).all (fun x => x.1.isSome)
      && decide ((ek :: ([] : List Expr)).length + ([] : List Keyword).length + (if ([] : List Keyword).isEmpty then 0 else 1) < 30)) = true := by rfl)
    (hline : (p7.endLine == p8.line) = true := by rfl) (hst : starEach (ek :: []) X.env = (false, eval ek X.env) :: starEach [] X.env := by rfl) (hplain : (backTo p8 (starEach ([] : List Expr) X.env)).any (·.1) = false := by rfl)
    (hs3 : swapsWith (.Call (.Attribute (.Name y p6) "append" p7) [ek] [] p8) none pos3.line X.env = pure false := by rfl)
    (hs4 : ∀ z, foldedSetIterable (.Name x p5) X.env z = pure z := by intro _; rfl) :
    SDs X E (.Assign [.Name x p1] (.Call (.Name fn p2) (e :: es) [] p3) pos1 :: .If c tb [] pos2 :: .For (.Name y p4) (.Name x p5) [.Expr (.Call (.Attribute (.Name y p6) "append" p7) [ek] [] p8) pos3] [] pos4 :: sts) (wFound i j sp wl wt ws) := by
  obtain ⟨ta, pa, sa⟩ := ha.ex
  obtain ⟨tt, pt, st⟩ := ht.ex
  obtain ⟨tb', pb⟩ := hbd
  obtain ⟨tk, pk, sk⟩ := hek.ex
  obtain ⟨tr, pr, sr⟩ := hrest.ex
  refine ⟨_, pss_cons (ps_set nd hi hx (pe_call G hr hg hm hk hb .nil xk.pass pa hdb he hpl) hs1 hfx) (pss_cons (ps_if pt pb pss_nil) (pss_cons (ps_for xk.own hc (pi_list (pe_var hi hvx hdx hcx)) (pg_name nd hj hy hfy)
    (pss_one (ps_expr (pe_bm PySem.F.plainAttrs_list PySem.F.slot_list_append PySem.F.type_list_append mt_append (pe_var hj hvy hdy hcy) pk hbase hfew hline hst hplain) hs3)) hs4) pr)), fun q ρ hw F σ H S D rp o => ?_⟩
  obtain ⟨nm, hi', hj', hw⟩ := hw
  refine sa q.ex ρ _ hw F σ H S _ rp (o.exOk rp) fun ds vs H1 S1 q1 g1 h1 => ?_
  refine ⟨ds, S1, _, ⟨g1.sh, (rp.grow g1).fg.tb⟩, by rw [List.append_nil]; exact h1, q1, fun p dn H2 q2 g2 nw => ?_⟩
  obtain ⟨hlen, q2⟩ := q2
  have rp1 := rp.grow g1
  have rp2 := rp1.grow g2
  have rL : RepL F (lsY p dn) (ρ.set i .un) (σ.set i (some (.ref p))) H2 S1 := by
    have back : ∀ {k : Nat} {m : Bool} {c : Cn}, (ρ.set i .un)[k]? = some (Sl.own m c) → i ≠ k ∧ ρ[k]? = some (Sl.own m c) := fun {k m c} e => by
      by_cases z : i = k
      · subst z
        rw [List.getElem?_set] at e
        simp at e
      · rw [List.getElem?_set_ne z] at e
        exact ⟨z, e⟩
    refine ⟨rp2.unset, fun k c e => nm k c (back e).2, ⟨nw.nd, fun x hx => ?_⟩, fun x hx ⟨k, m, c, e1, e2⟩ => ?_⟩
    · obtain ⟨z1, z2, z3⟩ := nw.at' x hx
      exact ⟨z1, g1.sh.free z2, fg_free rp1.fg z2, z3⟩
    · obtain ⟨z, e1⟩ := back e1
      rw [List.getElem?_set_ne z] at e2
      obtain ⟨p', o', f1, _, f3, _⟩ := rp1.own e1
      rw [e2] at f1
      cases f1
      rw [(nw.at' x hx).2.1] at f3
      cases f3
  have hsi : i < σ.length := by rw [rp.len]; exact hi'
  have ei : (σ.set i (some (V.ref p)))[i]? = some (some (.ref p)) := List.getElem?_set_self hsi
  have vw : Rep F (ρ.set i (.fz (.lst ((dn.map (·.2)).map fun is => NL.D.lst (is.map .int))))) (σ.set i (some (.ref p))) H2 (frzS (lsY p dn) H2 S1) := by
    refine rL.frz.tell hi' ei ?_
    rw [List.map_map]
    exact dat_ls fun x hx => (frzS_in hx).trans (rL.y.at' x hx).1
  refine st XN _ _ q2 F _ H2 _ _ vw exOkN fun b H3 S3 q3 g3 => ?_
  obtain ⟨rfl, q3⟩ := q3
  refine iteF ?_
  have rL3 := rL.grow (back_grow g3 (frzS_same rL))
  have hsj : j < (σ.set i (some (V.ref p))).length := by rw [List.length_set, rp.len]; exact hj'
  have rL4 := rL3.unset (j := j) (x := (σ.set i (some (V.ref p)))[j])
  rw [List.set_getElem_self] at rL4
  refine ⟨.ref p, ei, p, rfl, ⟨_, .of (rL4.y.at' _ (.head _)).1⟩, ?_⟩
  let W : Nat → Nat → L2.St → Hp → Prop := fun n m σ H => m = dn.length - n ∧ n ≤ dn.length ∧ ∃ (dn' : List Dn) (S : Hp), dn'.map (·.1) = dn.map (·.1) ∧ (∀ e ∈ dn'.drop n, e.2.length < sizeLine) ∧ σ[i]? = some (some (.ref p)) ∧ RepL F (lsY p dn') ((ρ.set i .un).set j .un) σ H S
  refine ⟨W, ⟨dn.length, by simp, Nat.zero_le _, dn, S1, rfl, fun e he => hlen _ (List.mem_map.mpr ⟨e, he, rfl⟩), ei, rL4⟩, ?_⟩
  rintro n m σ5 H5 ⟨rfl, hn, dn', S5, ed, hl5, ei5, r5⟩
  have hld : dn'.length = dn.length := by have := congrArg List.length ed; simpa using this
  have hp5 := (r5.y.at' _ (.head _)).1
  rcases Nat.lt_or_ge n dn.length with hlt | hge
  · have hlt' : n < dn'.length := by omega
    obtain ⟨A, B, eAB, eA⟩ : ∃ A B, dn' = A ++ dn'[n] :: B ∧ A.length = n := ⟨dn'.take n, dn'.drop (n + 1), by rw [List.getElem_cons_drop, List.take_append_drop], by rw [List.length_take]; omega⟩
    generalize dn'[n] = en at eAB
    obtain ⟨l, is⟩ := en
    subst eAB
    have hx5 : ((A ++ (l, is) :: B).map fun e => V.ref e.1)[n]? = some (.ref l) := by
      rw [List.getElem?_map, List.getElem?_append_right (by omega), eA, Nat.sub_self]
      rfl
    refine .inr ⟨⟨_, _, .of hp5, hx5⟩, W (n + 1) (dn.length - (n + 1)), fun σ' H' h => ⟨_, by omega, h⟩, fun z H' ⟨e1, e2⟩ => ?_⟩
    subst e1
    have ez := e2 _ (.of hp5)
    rw [hx5] at ez
    cases ez
    have hl := (r5.y.at' (l, HO.lst (is.map V.int)) (.tail _ (yd_dn (e := (l, is)) (st := []) (dn := A ++ (l, is) :: B) (List.mem_append_right _ (.head _))))).1
    have r6 := r5.unset (j := j) (x := some (.ref l))
    rw [List.set_set] at r6
    have hsj5 : j < σ5.length := by rw [r5.rp.len]; simpa using hj'
    have hdn : ∀ e ∈ (l, is) :: B, e.2.length < sizeLine := fun e he => hl5 e (by rw [List.drop_append_of_le_length (by omega), ← eA, List.drop_length]; exact he)
    refine ⟨.ref l, List.getElem?_set_self hsj5, .inl ⟨rfl, _, .of hl⟩, ?_⟩
    refine sk XN _ _ (hkk _ (fun ds => ds = [.int kk]) rfl) F _ _ S5 _ r6.rp exOkN fun ds vs H7 S7 q7 g7 h7 => ?_
    subst q7
    unfold Dats Dats at h7
    obtain ⟨v, _, rfl, hz, rfl⟩ := h7
    unfold Dat at hz
    subst hz
    have r7 := r6.grow g7
    have p1 : (lsY p (A ++ (l, is) :: B)).Perm ((l, HO.lst (is.map V.int)) :: (p, .lst ((A ++ (l, is) :: B).map fun e => V.ref e.1)) :: (yd [] (A ++ B))) := by
      unfold lsY yd
      simp only [List.flatMap_nil, List.nil_append, List.map_append, List.map_cons]
      exact (List.Perm.cons _ List.perm_middle).trans (.swap _ _ _)
    have r8 := (r7.perm p1).put (o' := .lst (is.map V.int ++ [.int kk])) ⟨fun _ z => (by cases z), fun _ z => (by cases z)⟩
    have p2 : ((l, HO.lst (is.map V.int ++ [V.int kk])) :: (p, HO.lst ((A ++ (l, is) :: B).map fun e => V.ref e.1)) :: (yd [] (A ++ B))).Perm (lsY p (A ++ (l, is ++ [kk]) :: B)) := by
      unfold lsY yd
      simp only [List.flatMap_nil, List.nil_append, List.map_append, List.map_cons, List.map_nil]
      exact (List.Perm.swap _ _ _).trans (.cons _ List.perm_middle.symm)
    refine ⟨l, _, .int kk, rfl, rfl, g7.hh.lst hl, by rw [List.length_map]; exact hdn (l, is) (.head _), ?_⟩
    refine ⟨rfl, hlt, A ++ (l, is ++ [kk]) :: B, S7, by simpa using ed, fun e he => ?_, ?_, r8.perm p2⟩
    · refine hdn e (.tail _ ?_)
      rw [List.drop_append, ← eA, List.drop_of_length_le (by omega), show A.length + 1 - A.length = 1 by omega] at he
      exact he
    · rw [List.getElem?_set_ne (fun z => hij z.symm)]
      exact ei5
  · have en : n = dn.length := by omega
    refine .inl ⟨⟨_, .of hp5, by rw [List.length_map]; omega⟩, ?_⟩
    exact sr q _ q3 F σ5 H5 S5 D r5.rp o
theorem sds_ps {ws : WS} (h : SDs X E sts ws) : ∃ t, PSs X sts t := by
  obtain ⟨t, p, _⟩ := h.ex
  exact ⟨t, p⟩
/-! ### a def that tells such a list -/
structure SN (X : Cx) (E : XK) (sts : List Stmt) (w : (List (List Int) → Prop) → Ev → Prop) : Prop where
  ex : ∃ t, PSs X sts t ∧ ∀ (R : List (List Int) → Prop) (ρ : Ev), w R ρ → ∀ (F : Fr) (σ : L2.St) (H S : Hp) (D : Ends), Rep F ρ σ H S →
    (∀ ρ' σ' H1 S1 q dn, R (dn.map (·.2)) → RepL F (lsY q dn) ρ' σ' H1 S1 → D.rt (.ref q) H1) → t D σ H
structure SNB (X : Cx) (E : XK) (sts : List Stmt) (w : (List (List Int) → Prop) → BS → Prop) : Prop where
  ex : ∃ t, PSs X sts t ∧ ∀ (R : List (List Int) → Prop) (b : BS), w R b → ∀ (F : Fr) (σ : L2.St) (H S : Hp) (D : Ends), RB F b σ H S →
    (∀ ρ' σ' H1 S1 q dn, R (dn.map (·.2)) → RepL F (lsY q dn) ρ' σ' H1 S1 → D.rt (.ref q) H1) → t D σ H
def endsN (w : Ev → Prop) : DEnds := ⟨w, fun _ _ => False, fun _ => False, fun _ => False, XN⟩
theorem sn_sd {ws : WS} {wn : (List (List Int) → Prop) → Ev → Prop} (h : SD X E st ws) (hr : SN X E sts wn) : SN X E (st :: sts) (fun R ρ => ws (endsN (wn R)) ρ) := by
  obtain ⟨t, p, s⟩ := h.ex
  obtain ⟨t', p', s'⟩ := hr.ex
  refine ⟨_, pss_cons p p', fun R ρ hw F σ H S D rp k => ?_⟩
  exact s _ ρ hw F σ H S _ rp ⟨fun ρ1 σ1 H1 S1 q1 r1 => s' R ρ1 q1 F σ1 H1 S1 D r1 k, fun _ _ _ _ _ _ z => z.elim, fun _ _ _ _ z => z.elim, fun _ _ _ _ z => z.elim, fun _ _ _ _ z => z.elim⟩
theorem sn_blk {wy : (BS → Prop) → XS → Ev → Prop} {wn : (List (List Int) → Prop) → BS → Prop} (h : SY X E st wy) (hr : SNB X E sts wn) : SN X E (st :: sts) (fun R ρ => wy (wn R) XN ρ) := by
  obtain ⟨t, p, s⟩ := h.ex
  obtain ⟨t', p', s'⟩ := hr.ex
  refine ⟨_, pss_cons p p', fun R ρ hw F σ H S D rp k => ?_⟩
  exact s _ XN ρ hw F σ H S _ rp exOkN fun b σ1 H1 S1 q1 r1 => s' R b q1 F σ1 H1 S1 D r1 k
theorem snb_cons {ws : WB} {wn : (List (List Int) → Prop) → BS → Prop} (h : SB X E st ws) (hr : SNB X E sts wn) : SNB X E (st :: sts) (fun R b => ws (wn R) (fun _ => False) b) := by
  obtain ⟨t, p, s⟩ := h.ex
  obtain ⟨t', p', s'⟩ := hr.ex
  refine ⟨_, pss_cons p p', fun R b hw F σ H S D rb k => ?_⟩
  exact s _ _ b hw F σ H S _ rb (fun b σ1 H1 S1 q1 r1 => s' R b q1 F σ1 H1 S1 D r1 k) fun _ _ _ _ z => z.elim
theorem snb_ret (h : SR X E st) : SNB X E [st] (fun R b => b.st = [] ∧ Srt1 (b.dn.map fun e => NL.D.lst (e.2.map .int)) ∧ R (sorL (b.dn.map (·.2)))) := by
  obtain ⟨t, p, s⟩ := h.ex
  refine ⟨_, pss_one p, fun R b hw F σ H S D rb k => ?_⟩
  exact s F b σ H S D rb hw.1 hw.2.1 fun q dn H1 e r => k _ _ _ _ q dn (by rw [e]; exact hw.2.2) r
end
section
variable {P : Program} {w : World} {K : PySem.W.Frag} {mg : Str → Option Value} {base : Heap}
theorem fn_new {x qual : Str} {st : Stmt} {f : Addr} {fd : FuncData} {N ps : List Str} {k : Nat} {sp : SpecN} (F : Fun K x qual st f fd) (S : FnScope N ps (defScope st)) (len : ∀ ds R, sp ds R → ds.length = ps.length)
    (hbody : ∀ (cdv : Value) (A : Around) (outer : List Env) (s : Shared) (H : Hp) (E : XK), Room k (A.deeper (envOfC qual (defScope st) s.heap.objs.size f cdv)) → XOk (cxF P w K mg base N qual (defScope st) f cdv A outer s H E) E →
      ∃ wn, SN (cxF P w K mg base N qual (defScope st) f cdv A outer s H E) E (defBody st) wn ∧ ∀ ds R, sp ds R → wn R (startE N.length ds)) :
    FnOk P w K mg base (L2N.CX P w) (k + 1) f fd ps (spNew sp) := by
  have hpl : ps.length ≤ N.length := by
    have := congrArg List.length S.pre
    rw [List.length_take] at this
    omega
  refine okN F S (fun vs H Q E h => ?_) (fun cdv A outer s H vs Q E hr h => ?_)
  · obtain ⟨ds, S, R, _, hd, hs, _⟩ := h
    rw [hd.len]
    exact len ds R hs
  · obtain ⟨ds, S0, R, ⟨sh, tb⟩, hd, hs, k1⟩ := h
    obtain ⟨wn, sn, pure⟩ := hbody cdv A outer s H E hr xk_fn
    obtain ⟨t, pt, so⟩ := sn.ex
    have hl : ds.length ≤ N.length := by rw [len ds R hs]; exact hpl
    refine ⟨t, pt, so R _ (pure ds R hs) _ _ H S0 _ (rep_start sh tb hd hl) fun ρ' σ' H1 S1 q dn hR r => k1 q dn H1 hR ⟨⟨fun a o e n => r.rp.fg.hh a o (fun z => z) e n, r.rp.fg.al, r.rp.fg.ft⟩, .refl _, r.rp.fg.ss.trans r.rp.fg.sh, fun _ _ => rfl⟩ ⟨r.y.nd, fun x hx => ?_⟩⟩
    obtain ⟨z1, _, z3, z4⟩ := r.y.at' x hx
    exact ⟨z1, z3, z4⟩
end
end NL

namespace NL
open PySem PySem.Spec L2
open PyProof.Rows hiding St
local macro_rules | `(tactic| walk_at "s") => `(tactic| try simp only [wVar, wOwn, wC, wOp, onBl, wtOn, wChain, trD, wtVal, wtNot, wAnd, wOr, wAndV, wOrV, wNotV, wIf, wNil, wCons, wTup, wLst, wUn, wNew, gAdd, gInt, gInt0, gMul, gCatF, gRepF, wOpF, gEq, gCmp, gInS, gIsN, isN, gIsB, gIdx, woNone, woSome, gSl, wSl, gSlF, wSlF, wB, wBF, gLen, gInt1, gInt2, gToInt, gListF, tyName, gIsT, wIsT, wCall, Rt.d, Cn.d, onNew, wCallF, wCallN, wCallNF, nlR, wgName, wgNil, wgCons, wgTup, wSeq, wSeqT, wSigns, wRng1, wRng2, wRng3, wRev, wEnum, wZip, wLc, wtYes, wsNil, wsBrk, wsCnt, wsExpr, wsRet, wsRetF, wsRetOwn, wsRetN, wIfS, wsSet, wsSetF, wsAsg, wsPar, wsAug, gApp, gExt, gPop0, gRev, wMut, wsSetIx, wFor, wsRaise, wSeqS, wFrz, wsCallM, wsPopAdd, endsOf, endM, endsM, startM, startE, wipeE, smallI, CPow, Br_true, Br_false, Br_not, rngD_eq, dC, dP, dI, ex_atI_map, atI0, atI1, atI2, kit1, kit2, kit3, kit4, kit5, kit6, kit7, kit8, kit9, kit10, kit11, kit12, kit13, kit14, kit15, kit16, kit17, kit18, kit19, kit20, kit21, kit22, kit23, kit24, kit25, kit26, kit27, kit28, kit29, kit30, kit31, kit32, kit33, kit34, kit35, sizeLine_eq, true_and, and_true, exists_eq_left', Option.some.injEq, List.map_cons, List.map_nil, List.length_cons, List.length_nil, List.length_map, List.length_append, List.cons_append, List.nil_append, List.set_cons_zero, List.set_cons_succ, List.getElem?_cons_zero, List.getElem?_cons_succ, List.getElem?_nil, Nat.reduceSub, Nat.reduceAdd, Nat.zero_add, Nat.sub_self, List.replicate_succ, List.replicate_zero, Bool.false_bne, Bool.true_bne, Bool.false_xor, Bool.true_xor, Bool.not_true, Bool.not_false, Bool.not_not, beq_self_eq_true, Bool.and_true, Bool.true_and, nl, nls, decide_true, decide_false, exists_eq_left, Bool.false_eq_true, Option.some_inj, Int.reduceToNat, Int.reducePow, Int.reduceMul, Int.reduceSub, Int.reduceAdd, Int.reduceNeg, Nat.reducePow, Nat.reduceLeDiff, Int.reduceLE, Int.reduceLT, Int.reduceAbs, Int.natAbs_neg, Nat.reduceLT, divW_eq, mulW_eq, Bool.or_true, Bool.true_or, cut_map, ← List.map_append, ← List.map_reverse, castN, eq_self, Int.reduceEq, deqC, deq_self, rep_map, nls_dP, wsAugIx, tx_cps, tx_len, tx_app, tx_one, tx_nil, tx_cut, tx_signs, tx_rep, lit_empty, tx_inj, wJoin, gJoin, wmCall, wmOpL, wmOpR, wmIxR, wmTup2, wsSetM, wsAppM, wForM, gSum, gAny, gAll, gLtD, gInT, gSorted, gAddT, wThaw, gMaxL, wIsE, wIsV, wCallE, wTry, DEnds.off, gInB, wDct0, wCntB, wIdxB, wTryF, wIdxS, gInX, wGetDI, wsSetKeyI, gInDI, dctOf, gIns, gTup, wDct1, gEqR, wsSetG, wgd0, wgdC, wLck, wDctL, wGetD, dctOf, wsSetKey, wItems, wSortI, wsCallMD, endsMD, endMD, startMD, wFld, wsSetFld, wsAddFld, isO_rfl, wMeth, wMethF, wMethN, wmMeth, wsExprM, wsRetM, wmOne, wmCons, wMake, wmMake, wsSetMk, gToIntS, endsO, endO, startO, List.getElem?_cons_succ, wsSetV])
--@ law_at
def SP_law_at : Spec := fun ds _ R => ∃ ns k, ds = [.scr ns, .int k] ∧ 0 ≤ k ∧ R (.val (.int (ns.getD k.toNat 0)))
theorem len_law_at (ds : List D) (x : XS) (R : Rt → Prop) (h : SP_law_at ds x R) : ds.length = ["_law_script", "_law_k"].length := by
  obtain ⟨ns, k, rfl, _⟩ := h; rfl
def W_law_at : WS :=
  (wSeqS (wIfS (wtOn (wOp (gCmp fun i j => decide (i < j)) (wVar 1) (wB gLen (wCons (wVar 0) wNil))))
  (wsRet (wOp gIdx (wVar 0) (wVar 1)))
  wsNil)
  (wsRet (wC (.int 0))))
theorem pure_law_at (ds : List D) (x : XS) (R : Rt → Prop) (h : SP_law_at ds x R) : W_law_at (endsOf R x) (startE 2 ds) := by
  obtain ⟨ns, k, rfl, hk, q⟩ := h
  simp only [W_law_at, wVar, wOwn, wC, wOp, onBl, wtOn, wChain, trD, wtVal, wtNot, wAnd, wOr, wAndV, wOrV, wNotV, wIf, wNil, wCons, wTup, wLst, wUn, wNew, gAdd, gInt, gInt0, gMul, gCatF, gRepF, wOpF, gEq, gCmp, gInS, gIsN, isN, gIsB, gIdx, woNone, woSome, gSl, wSl, gSlF, wSlF, wB, wBF, gLen, gInt1, gInt2, gToInt, gListF, tyName, gIsT, wIsT, wCall, Rt.d, Cn.d, onNew, wCallF, wCallN, wCallNF, nlR, wgName, wgNil, wgCons, wgTup, wSeq, wSeqT, wSigns, wRng1, wRng2, wRng3, wRev, wEnum, wZip, wLc, wtYes, wsNil, wsBrk, wsCnt, wsExpr, wsRet, wsRetF, wsRetOwn, wsRetN, wIfS, wsSet, wsSetF, wsAsg, wsPar, wsAug, gApp, gExt, gPop0, gRev, wMut, wsSetIx, wFor, wsRaise, wSeqS, wFrz, wsCallM, wsPopAdd, endsOf, endM, endsM, startM, startE, wipeE, smallI, CPow, Br_true, Br_false, Br_not, rngD_eq, dC, dP, dI, ex_atI_map, atI0, atI1, atI2, kit1, kit2, kit3, kit4, kit5, kit6, kit7, kit8, kit9, kit10, kit11, kit12, kit13, kit14, kit15, kit16, kit17, kit18, kit19, kit20, kit21, kit22, kit23, kit24, kit25, kit26, kit27, kit28, kit29, kit30, kit31, kit32, kit33, kit34, kit35, sizeLine_eq, true_and, and_true, exists_eq_left', Option.some.injEq, List.map_cons, List.map_nil, List.length_cons, List.length_nil, List.length_map, List.length_append, List.cons_append, List.nil_append, List.set_cons_zero, List.set_cons_succ, List.getElem?_cons_zero, List.getElem?_cons_succ, List.getElem?_nil, Nat.reduceSub, Nat.reduceAdd, Nat.zero_add, Nat.sub_self, List.replicate_succ, List.replicate_zero, Bool.false_bne, Bool.true_bne, Bool.false_xor, Bool.true_xor, Bool.not_true, Bool.not_false, Bool.not_not, beq_self_eq_true, Bool.and_true, Bool.true_and, nl, nls, decide_true, decide_false, exists_eq_left, Bool.false_eq_true, Option.some_inj, Int.reduceToNat, Int.reducePow, Int.reduceMul, Int.reduceSub, Int.reduceAdd, Int.reduceNeg, Nat.reducePow, Nat.reduceLeDiff, Int.reduceLE, Int.reduceLT, Int.reduceAbs, Int.natAbs_neg, Nat.reduceLT, divW_eq, mulW_eq, Bool.or_true, Bool.true_or, cut_map, ← List.map_append, ← List.map_reverse, castN, eq_self, Int.reduceEq, deqC, deq_self, rep_map, nls_dP, wsAugIx, tx_cps, tx_len, tx_app, tx_one, tx_nil, tx_cut, tx_signs, tx_rep, lit_empty, tx_inj, wJoin, gJoin, wmCall, wmOpL, wmOpR, wmIxR, wmTup2, wsSetM, wsAppM, wForM, gSum, gAny, gAll, gLtD, gInT, gSorted, gAddT, wThaw, gMaxL, wIsE, wIsV, wCallE, wTry, DEnds.off, gInB, wDct0, wCntB, wIdxB, wTryF, wIdxS, gInX, wGetDI, wsSetKeyI, gInDI, dctOf, gIns, gTup, wDct1, gEqR, wsSetG, wgd0, wgdC, wLck, wDctL, wGetD, dctOf, wsSetKey, wItems, wSortI, wsCallMD, endsMD, endMD, startMD, wFld, wsSetFld, wsAddFld, isO_rfl, wMeth, wMethF, wMethN, wmMeth, wsExprM, wsRetM, wmOne, wmCons, wMake, wmMake, wsSetMk, gToIntS, endsO, endO, startO, List.getElem?_cons_succ, wsSetV]
  refine Br.d (fun h => ?_) (fun h => ?_)
  · walk_at "s"
    refine ⟨_, atI_at (j := k.toNat) (by omega) (by omega), ?_⟩
    rwa [List.getD_eq_getElem?_getD, List.getElem?_eq_getElem (by omega)] at q
  · walk_at "s"
    rwa [List.getD_eq_getElem?_getD, List.getElem?_eq_none (by omega)] at q
--@ law_contrary
def SP_law_contrary : Spec := fun ds _ R => ∃ c : List Pc, ds = [dC c] ∧ c.length ≤ 16777216 ∧ R (.new (.lst ((con c).map dP)))
theorem len_law_contrary (ds : List D) (x : XS) (R : Rt → Prop) (h : SP_law_contrary ds x R) : ds.length = ["_law_cord_here"].length := by
  obtain ⟨c, rfl, _⟩ := h; rfl
def W_law_contrary : WS :=
  (wsRetF (wLc (wRev (wVar 0)) (wgTup 2 (wgCons (wgName 1) (wgCons (wgName 2) wgNil))) wtYes (wTup (wCons (wVar 1) (wCons (wOp (gInt0 fun i j => i - j) (wC (.int 0)) (wVar 2)) wNil))) [1, 2]))
theorem pure_law_contrary (ds : List D) (x : XS) (R : Rt → Prop) (h : SP_law_contrary ds x R) : W_law_contrary (endsOf R x) (startE 3 ds) := by
  obtain ⟨c, rfl, hl, q⟩ := h
  simp only [W_law_contrary, wVar, wOwn, wC, wOp, onBl, wtOn, wChain, trD, wtVal, wtNot, wAnd, wOr, wAndV, wOrV, wNotV, wIf, wNil, wCons, wTup, wLst, wUn, wNew, gAdd, gInt, gInt0, gMul, gCatF, gRepF, wOpF, gEq, gCmp, gInS, gIsN, isN, gIsB, gIdx, woNone, woSome, gSl, wSl, gSlF, wSlF, wB, wBF, gLen, gInt1, gInt2, gToInt, gListF, tyName, gIsT, wIsT, wCall, Rt.d, Cn.d, onNew, wCallF, wCallN, wCallNF, nlR, wgName, wgNil, wgCons, wgTup, wSeq, wSeqT, wSigns, wRng1, wRng2, wRng3, wRev, wEnum, wZip, wLc, wtYes, wsNil, wsBrk, wsCnt, wsExpr, wsRet, wsRetF, wsRetOwn, wsRetN, wIfS, wsSet, wsSetF, wsAsg, wsPar, wsAug, gApp, gExt, gPop0, gRev, wMut, wsSetIx, wFor, wsRaise, wSeqS, wFrz, wsCallM, wsPopAdd, endsOf, endM, endsM, startM, startE, wipeE, smallI, CPow, Br_true, Br_false, Br_not, rngD_eq, dC, dP, dI, ex_atI_map, atI0, atI1, atI2, kit1, kit2, kit3, kit4, kit5, kit6, kit7, kit8, kit9, kit10, kit11, kit12, kit13, kit14, kit15, kit16, kit17, kit18, kit19, kit20, kit21, kit22, kit23, kit24, kit25, kit26, kit27, kit28, kit29, kit30, kit31, kit32, kit33, kit34, kit35, sizeLine_eq, true_and, and_true, exists_eq_left', Option.some.injEq, List.map_cons, List.map_nil, List.length_cons, List.length_nil, List.length_map, List.length_append, List.cons_append, List.nil_append, List.set_cons_zero, List.set_cons_succ, List.getElem?_cons_zero, List.getElem?_cons_succ, List.getElem?_nil, Nat.reduceSub, Nat.reduceAdd, Nat.zero_add, Nat.sub_self, List.replicate_succ, List.replicate_zero, Bool.false_bne, Bool.true_bne, Bool.false_xor, Bool.true_xor, Bool.not_true, Bool.not_false, Bool.not_not, beq_self_eq_true, Bool.and_true, Bool.true_and, nl, nls, decide_true, decide_false, exists_eq_left, Bool.false_eq_true, Option.some_inj, Int.reduceToNat, Int.reducePow, Int.reduceMul, Int.reduceSub, Int.reduceAdd, Int.reduceNeg, Nat.reducePow, Nat.reduceLeDiff, Int.reduceLE, Int.reduceLT, Int.reduceAbs, Int.natAbs_neg, Nat.reduceLT, divW_eq, mulW_eq, Bool.or_true, Bool.true_or, cut_map, ← List.map_append, ← List.map_reverse, castN, eq_self, Int.reduceEq, deqC, deq_self, rep_map, nls_dP, wsAugIx, tx_cps, tx_len, tx_app, tx_one, tx_nil, tx_cut, tx_signs, tx_rep, lit_empty, tx_inj, wJoin, gJoin, wmCall, wmOpL, wmOpR, wmIxR, wmTup2, wsSetM, wsAppM, wForM, gSum, gAny, gAll, gLtD, gInT, gSorted, gAddT, wThaw, gMaxL, wIsE, wIsV, wCallE, wTry, DEnds.off, gInB, wDct0, wCntB, wIdxB, wTryF, wIdxS, gInX, wGetDI, wsSetKeyI, gInDI, dctOf, gIns, gTup, wDct1, gEqR, wsSetG, wgd0, wgdC, wLck, wDctL, wGetD, dctOf, wsSetKey, wItems, wSortI, wsCallMD, endsMD, endMD, startMD, wFld, wsSetFld, wsAddFld, isO_rfl, wMeth, wMethF, wMethN, wmMeth, wsExprM, wsRetM, wmOne, wmCons, wMake, wmMake, wsSetMk, gToIntS, endsO, endO, startO, List.getElem?_cons_succ, wsSetV]
  refine compL_map dP (fun p => dP (p.1, -p.2)) (fun p Q' hq => ?_) _ _ ?_ ?_
  · simp only [wVar, wOwn, wC, wOp, onBl, wtOn, wChain, trD, wtVal, wtNot, wAnd, wOr, wAndV, wOrV, wNotV, wIf, wNil, wCons, wTup, wLst, wUn, wNew, gAdd, gInt, gInt0, gMul, gCatF, gRepF, wOpF, gEq, gCmp, gInS, gIsN, isN, gIsB, gIdx, woNone, woSome, gSl, wSl, gSlF, wSlF, wB, wBF, gLen, gInt1, gInt2, gToInt, gListF, tyName, gIsT, wIsT, wCall, Rt.d, Cn.d, onNew, wCallF, wCallN, wCallNF, nlR, wgName, wgNil, wgCons, wgTup, wSeq, wSeqT, wSigns, wRng1, wRng2, wRng3, wRev, wEnum, wZip, wLc, wtYes, wsNil, wsBrk, wsCnt, wsExpr, wsRet, wsRetF, wsRetOwn, wsRetN, wIfS, wsSet, wsSetF, wsAsg, wsPar, wsAug, gApp, gExt, gPop0, gRev, wMut, wsSetIx, wFor, wsRaise, wSeqS, wFrz, wsCallM, wsPopAdd, endsOf, endM, endsM, startM, startE, wipeE, smallI, CPow, Br_true, Br_false, Br_not, rngD_eq, dC, dP, dI, ex_atI_map, atI0, atI1, atI2, kit1, kit2, kit3, kit4, kit5, kit6, kit7, kit8, kit9, kit10, kit11, kit12, kit13, kit14, kit15, kit16, kit17, kit18, kit19, kit20, kit21, kit22, kit23, kit24, kit25, kit26, kit27, kit28, kit29, kit30, kit31, kit32, kit33, kit34, kit35, sizeLine_eq, true_and, and_true, exists_eq_left', Option.some.injEq, List.map_cons, List.map_nil, List.length_cons, List.length_nil, List.length_map, List.length_append, List.cons_append, List.nil_append, List.set_cons_zero, List.set_cons_succ, List.getElem?_cons_zero, List.getElem?_cons_succ, List.getElem?_nil, Nat.reduceSub, Nat.reduceAdd, Nat.zero_add, Nat.sub_self, List.replicate_succ, List.replicate_zero, Bool.false_bne, Bool.true_bne, Bool.false_xor, Bool.true_xor, Bool.not_true, Bool.not_false, Bool.not_not, beq_self_eq_true, Bool.and_true, Bool.true_and, nl, nls, decide_true, decide_false, exists_eq_left, Bool.false_eq_true, Option.some_inj, Int.reduceToNat, Int.reducePow, Int.reduceMul, Int.reduceSub, Int.reduceAdd, Int.reduceNeg, Nat.reducePow, Nat.reduceLeDiff, Int.reduceLE, Int.reduceLT, Int.reduceAbs, Int.natAbs_neg, Nat.reduceLT, divW_eq, mulW_eq, Bool.or_true, Bool.true_or, cut_map, ← List.map_append, ← List.map_reverse, castN, eq_self, Int.reduceEq, deqC, deq_self, rep_map, nls_dP, wsAugIx, tx_cps, tx_len, tx_app, tx_one, tx_nil, tx_cut, tx_signs, tx_rep, lit_empty, tx_inj, wJoin, gJoin, wmCall, wmOpL, wmOpR, wmIxR, wmTup2, wsSetM, wsAppM, wForM, gSum, gAny, gAll, gLtD, gInT, gSorted, gAddT, wThaw, gMaxL, wIsE, wIsV, wCallE, wTry, DEnds.off, gInB, wDct0, wCntB, wIdxB, wTryF, wIdxS, gInX, wGetDI, wsSetKeyI, gInDI, dctOf, gIns, gTup, wDct1, gEqR, wsSetG, wgd0, wgdC, wLck, wDctL, wGetD, dctOf, wsSetKey, wItems, wSortI, wsCallMD, endsMD, endMD, startMD, wFld, wsSetFld, wsAddFld, isO_rfl, wMeth, wMethF, wMethN, wmMeth, wsExprM, wsRetM, wmOne, wmCons, wMake, wmMake, wsSetMk, gToIntS, endsO, endO, startO, List.getElem?_cons_succ, wsSetV]
    simpa [dP] using hq
  · simp only [wVar, wOwn, wC, wOp, onBl, wtOn, wChain, trD, wtVal, wtNot, wAnd, wOr, wAndV, wOrV, wNotV, wIf, wNil, wCons, wTup, wLst, wUn, wNew, gAdd, gInt, gInt0, gMul, gCatF, gRepF, wOpF, gEq, gCmp, gInS, gIsN, isN, gIsB, gIdx, woNone, woSome, gSl, wSl, gSlF, wSlF, wB, wBF, gLen, gInt1, gInt2, gToInt, gListF, tyName, gIsT, wIsT, wCall, Rt.d, Cn.d, onNew, wCallF, wCallN, wCallNF, nlR, wgName, wgNil, wgCons, wgTup, wSeq, wSeqT, wSigns, wRng1, wRng2, wRng3, wRev, wEnum, wZip, wLc, wtYes, wsNil, wsBrk, wsCnt, wsExpr, wsRet, wsRetF, wsRetOwn, wsRetN, wIfS, wsSet, wsSetF, wsAsg, wsPar, wsAug, gApp, gExt, gPop0, gRev, wMut, wsSetIx, wFor, wsRaise, wSeqS, wFrz, wsCallM, wsPopAdd, endsOf, endM, endsM, startM, startE, wipeE, smallI, CPow, Br_true, Br_false, Br_not, rngD_eq, dC, dP, dI, ex_atI_map, atI0, atI1, atI2, kit1, kit2, kit3, kit4, kit5, kit6, kit7, kit8, kit9, kit10, kit11, kit12, kit13, kit14, kit15, kit16, kit17, kit18, kit19, kit20, kit21, kit22, kit23, kit24, kit25, kit26, kit27, kit28, kit29, kit30, kit31, kit32, kit33, kit34, kit35, sizeLine_eq, true_and, and_true, exists_eq_left', Option.some.injEq, List.map_cons, List.map_nil, List.length_cons, List.length_nil, List.length_map, List.length_append, List.cons_append, List.nil_append, List.set_cons_zero, List.set_cons_succ, List.getElem?_cons_zero, List.getElem?_cons_succ, List.getElem?_nil, Nat.reduceSub, Nat.reduceAdd, Nat.zero_add, Nat.sub_self, List.replicate_succ, List.replicate_zero, Bool.false_bne, Bool.true_bne, Bool.false_xor, Bool.true_xor, Bool.not_true, Bool.not_false, Bool.not_not, beq_self_eq_true, Bool.and_true, Bool.true_and, nl, nls, decide_true, decide_false, exists_eq_left, Bool.false_eq_true, Option.some_inj, Int.reduceToNat, Int.reducePow, Int.reduceMul, Int.reduceSub, Int.reduceAdd, Int.reduceNeg, Nat.reducePow, Nat.reduceLeDiff, Int.reduceLE, Int.reduceLT, Int.reduceAbs, Int.natAbs_neg, Nat.reduceLT, divW_eq, mulW_eq, Bool.or_true, Bool.true_or, cut_map, ← List.map_append, ← List.map_reverse, castN, eq_self, Int.reduceEq, deqC, deq_self, rep_map, nls_dP, wsAugIx, tx_cps, tx_len, tx_app, tx_one, tx_nil, tx_cut, tx_signs, tx_rep, lit_empty, tx_inj, wJoin, gJoin, wmCall, wmOpL, wmOpR, wmIxR, wmTup2, wsSetM, wsAppM, wForM, gSum, gAny, gAll, gLtD, gInT, gSorted, gAddT, wThaw, gMaxL, wIsE, wIsV, wCallE, wTry, DEnds.off, gInB, wDct0, wCntB, wIdxB, wTryF, wIdxS, gInX, wGetDI, wsSetKeyI, gInDI, dctOf, gIns, gTup, wDct1, gEqR, wsSetG, wgd0, wgdC, wLck, wDctL, wGetD, dctOf, wsSetKey, wItems, wSortI, wsCallMD, endsMD, endMD, startMD, wFld, wsSetFld, wsAddFld, isO_rfl, wMeth, wMethF, wMethN, wmMeth, wsExprM, wsRetM, wmOne, wmCons, wMake, wmMake, wsSetMk, gToIntS, endsO, endO, startO, List.getElem?_cons_succ, wsSetV]; simpa using hl
  · simpa [con, Function.comp_def] using q
--@ law_mix
def lawOne (cell k : Int) : Int := (cell % 10000000000000000000000000000000000000000 * (62089911 + 2 * k) + 982451653 * k + 17) % 4294967291
def lawMix (cell k : Int) : Int := lawOne cell k * (lawOne cell k / 1024 + 2 * k + 1) % 4294967279
def SP_law_mix : Spec := fun ds _ R => ∃ cell k : Int, ds = [.int cell, .int k] ∧ 0 ≤ k ∧ k ≤ 100000 ∧ R (.val (.int (lawMix cell k)))
theorem len_law_mix (ds : List D) (x : XS) (R : Rt → Prop) (h : SP_law_mix ds x R) : ds.length = ["_law_cell", "_law_k"].length := by
  obtain ⟨c, k, rfl, _⟩ := h; rfl
def W_law_mix : WS :=
  (wSeqS (wsSet 2 (wOp (gInt (fun _ j => 0 < j) fun i j => i % j) (wOp gAdd (wOp gAdd (wOp gMul (wOp (gInt (fun _ j => 0 < j) fun i j => i % j) (wVar 0) (wOp (gInt CPow fun i j => i ^ j.toNat) (wC (.int 10)) (wC (.int 40)))) (wOp gAdd (wC (.int 62089911)) (wOp gMul (wC (.int 2)) (wVar 1)))) (wOp gMul (wC (.int 982451653)) (wVar 1))) (wC (.int 17))) (wC (.int 4294967291))))
  (wsRet (wOp (gInt (fun _ j => 0 < j) fun i j => i % j) (wOp gMul (wVar 2) (wOp gAdd (wOp gAdd (wOp (gInt CDivW fun i j => i / j) (wVar 2) (wC (.int 1024))) (wOp gMul (wC (.int 2)) (wVar 1))) (wC (.int 1)))) (wC (.int 4294967279)))))
theorem pure_law_mix (ds : List D) (x : XS) (R : Rt → Prop) (h : SP_law_mix ds x R) : W_law_mix (endsOf R x) (startE 3 ds) := by
  obtain ⟨cell, k, rfl, hk, hk2, q⟩ := h
  have b0 : 0 ≤ cell % 10000000000000000000000000000000000000000 := Int.emod_nonneg _ (by decide)
  have b1 : cell % 10000000000000000000000000000000000000000 < 10000000000000000000000000000000000000000 := Int.emod_lt_of_pos _ (by decide)
  have c0 : 0 ≤ lawOne cell k := Int.emod_nonneg _ (by decide)
  have c1 : lawOne cell k < 4294967291 := Int.emod_lt_of_pos _ (by decide)
  simp only [W_law_mix, wVar, wOwn, wC, wOp, onBl, wtOn, wChain, trD, wtVal, wtNot, wAnd, wOr, wAndV, wOrV, wNotV, wIf, wNil, wCons, wTup, wLst, wUn, wNew, gAdd, gInt, gInt0, gMul, gCatF, gRepF, wOpF, gEq, gCmp, gInS, gIsN, isN, gIsB, gIdx, woNone, woSome, gSl, wSl, gSlF, wSlF, wB, wBF, gLen, gInt1, gInt2, gToInt, gListF, tyName, gIsT, wIsT, wCall, Rt.d, Cn.d, onNew, wCallF, wCallN, wCallNF, nlR, wgName, wgNil, wgCons, wgTup, wSeq, wSeqT, wSigns, wRng1, wRng2, wRng3, wRev, wEnum, wZip, wLc, wtYes, wsNil, wsBrk, wsCnt, wsExpr, wsRet, wsRetF, wsRetOwn, wsRetN, wIfS, wsSet, wsSetF, wsAsg, wsPar, wsAug, gApp, gExt, gPop0, gRev, wMut, wsSetIx, wFor, wsRaise, wSeqS, wFrz, wsCallM, wsPopAdd, endsOf, endM, endsM, startM, startE, wipeE, smallI, CPow, Br_true, Br_false, Br_not, rngD_eq, dC, dP, dI, ex_atI_map, atI0, atI1, atI2, kit1, kit2, kit3, kit4, kit5, kit6, kit7, kit8, kit9, kit10, kit11, kit12, kit13, kit14, kit15, kit16, kit17, kit18, kit19, kit20, kit21, kit22, kit23, kit24, kit25, kit26, kit27, kit28, kit29, kit30, kit31, kit32, kit33, kit34, kit35, sizeLine_eq, true_and, and_true, exists_eq_left', Option.some.injEq, List.map_cons, List.map_nil, List.length_cons, List.length_nil, List.length_map, List.length_append, List.cons_append, List.nil_append, List.set_cons_zero, List.set_cons_succ, List.getElem?_cons_zero, List.getElem?_cons_succ, List.getElem?_nil, Nat.reduceSub, Nat.reduceAdd, Nat.zero_add, Nat.sub_self, List.replicate_succ, List.replicate_zero, Bool.false_bne, Bool.true_bne, Bool.false_xor, Bool.true_xor, Bool.not_true, Bool.not_false, Bool.not_not, beq_self_eq_true, Bool.and_true, Bool.true_and, nl, nls, decide_true, decide_false, exists_eq_left, Bool.false_eq_true, Option.some_inj, Int.reduceToNat, Int.reducePow, Int.reduceMul, Int.reduceSub, Int.reduceAdd, Int.reduceNeg, Nat.reducePow, Nat.reduceLeDiff, Int.reduceLE, Int.reduceLT, Int.reduceAbs, Int.natAbs_neg, Nat.reduceLT, divW_eq, mulW_eq, Bool.or_true, Bool.true_or, cut_map, ← List.map_append, ← List.map_reverse, castN, eq_self, Int.reduceEq, deqC, deq_self, rep_map, nls_dP, wsAugIx, tx_cps, tx_len, tx_app, tx_one, tx_nil, tx_cut, tx_signs, tx_rep, lit_empty, tx_inj, wJoin, gJoin, wmCall, wmOpL, wmOpR, wmIxR, wmTup2, wsSetM, wsAppM, wForM, gSum, gAny, gAll, gLtD, gInT, gSorted, gAddT, wThaw, gMaxL, wIsE, wIsV, wCallE, wTry, DEnds.off, gInB, wDct0, wCntB, wIdxB, wTryF, wIdxS, gInX, wGetDI, wsSetKeyI, gInDI, dctOf, gIns, gTup, wDct1, gEqR, wsSetG, wgd0, wgdC, wLck, wDctL, wGetD, dctOf, wsSetKey, wItems, wSortI, wsCallMD, endsMD, endMD, startMD, wFld, wsSetFld, wsAddFld, isO_rfl, wMeth, wMethF, wMethN, wmMeth, wsExprM, wsRetM, wmOne, wmCons, wMake, wmMake, wsSetMk, gToIntS, endsO, endO, startO, List.getElem?_cons_succ, wsSetV]
  refine ⟨mulW (by omega) (by omega), mulW (by omega) (by omega), mulW (by omega) (by omega), ?_⟩
  change CMulW 2 k ∧ CMulW (lawOne cell k) (lawOne cell k / 1024 + 2 * k + 1) ∧ R (.val (.int (lawMix cell k)))
  exact ⟨mulW (by omega) (by omega), mulW (by omega) (by omega), q⟩
--@ law_pieces
def lawVal (cell rest k : Int) : Int := if (if cell < 0 then -cell else cell) < 1000000000000000000 ∨ (-28 < rest ∧ rest < 28) then lawMix cell k else rest
def lawPc (v : Int) : Pc := (lawSign "abcz" (v % 4), v / 4 % 7 - 3)
def lawPcs (cell : Int) : List Int → Int → List Pc
  | [], _ => []
  | k :: ks, rest => lawPc (lawVal cell rest k) :: lawPcs cell ks (rest / 28)
def lawPieces (cell : Int) : List Pc := if cell % 5 = 2 then [(lawSign "abcdefghijklmnopqrstuvwxyz" (cell / 5 % 26), cell / 5 / 26 % (2 * 10 ^ 30 - 1) - (10 ^ 30 - 1))]
  else lawPcs cell (rng 0 1 (cell / 5 % 13).toNat) (cell / 5 / 13)
theorem lawPc_gd (v : Int) : Gd 3 (lawPc v) := by
  obtain ⟨c, e, _, h⟩ := lawSign_at (s := "abcz") (i := v % 4) (by omega) (by rw [abcz_len]; omega) abcz_ok
  refine ⟨h, ?_, ?_⟩
  · show -3 ≤ v / 4 % 7 - 3; omega
  · show v / 4 % 7 - 3 ≤ 3; omega
theorem lawPcs_gd (cell : Int) : ∀ (ks : List Int) (rest : Int), Gds 3 (lawPcs cell ks rest)
  | [], _ => .nil
  | k :: ks, rest => fun p hp => by
    rcases List.mem_cons.mp hp with e | e
    · rw [e]; exact lawPc_gd _
    · exact lawPcs_gd cell ks _ p e
theorem lawPcs_len (cell : Int) : ∀ (ks : List Int) (rest : Int), (lawPcs cell ks rest).length = ks.length
  | [], _ => rfl
  | k :: ks, rest => by simp [lawPcs, lawPcs_len cell ks]
theorem lawPieces_len (cell : Int) : (lawPieces cell).length ≤ 12 := by
  unfold lawPieces
  split
  · simp
  · rw [lawPcs_len, rng_len]; omega
theorem lawPieces_gd (cell : Int) : Gds (10 ^ 30) (lawPieces cell) := by
  unfold lawPieces
  have e30 : (10 : Int) ^ 30 = 1000000000000000000000000000000 := by decide
  split
  · intro p hp
    rw [List.mem_singleton] at hp
    subst hp
    obtain ⟨c, e, _, h⟩ := lawSign_at (s := "abcdefghijklmnopqrstuvwxyz") (i := cell / 5 % 26) (by omega) (by rw [az_len]; omega) az_ok
    refine ⟨h, ?_, ?_⟩
    · show -(10 ^ 30 : Int) ≤ _ - _
      rw [e30]; omega
    · show _ - _ ≤ (10 ^ 30 : Int)
      rw [e30]; omega
  · exact (lawPcs_gd _ _ _).mono (by rw [e30]; omega)
def SP_law_pieces : Spec := fun ds _ R => ∃ cell : Int, ds = [.int cell] ∧ R (.new (.lst ((lawPieces cell).map dP)))
theorem len_law_pieces (ds : List D) (x : XS) (R : Rt → Prop) (h : SP_law_pieces ds x R) : ds.length = ["_law_cell"].length := by
  obtain ⟨c, rfl, _⟩ := h; rfl
def W_law_pieces : WS :=
  (wSeqS (wsSet 1 (wOp (gInt CDivW fun i j => i / j) (wVar 0) (wC (.int 5))))
  (wSeqS (wIfS (wtOn (wOp (gEq false) (wOp (gInt (fun _ j => 0 < j) fun i j => i % j) (wVar 0) (wC (.int 5))) (wC (.int 2))))
  (wSeqS (wsSet 5 (wOp gIdx (wC (.str "abcdefghijklmnopqrstuvwxyz")) (wOp (gInt (fun _ j => 0 < j) fun i j => i % j) (wVar 1) (wC (.int 26)))))
  (wsRetF (wLst (wCons (wTup (wCons (wVar 5) (wCons (wOp (gInt0 fun i j => i - j) (wOp (gInt (fun _ j => 0 < j) fun i j => i % j) (wOp (gInt CDivW fun i j => i / j) (wVar 1) (wC (.int 26))) (wOp (gInt0 fun i j => i - j) (wOp gMul (wC (.int 2)) (wOp (gInt CPow fun i j => i ^ j.toNat) (wC (.int 10)) (wC (.int 30)))) (wC (.int 1)))) (wOp (gInt0 fun i j => i - j) (wOp (gInt CPow fun i j => i ^ j.toNat) (wC (.int 10)) (wC (.int 30))) (wC (.int 1)))) wNil))) wNil))))
  wsNil)
  (wSeqS (wsSet 2 (wOp (gInt (fun _ j => 0 < j) fun i j => i % j) (wVar 1) (wC (.int 13))))
  (wSeqS (wsSet 1 (wOp (gInt CDivW fun i j => i / j) (wVar 1) (wC (.int 13))))
  (wSeqS (wsSetF 3 (wLst wNil))
  (wSeqS (wFor (wRng1 (wVar 2)) (wgName 4)
  (wSeqS (wsSet 6 (wVar 1))
  (wSeqS (wIfS (wOr (wtOn (wOp (gCmp fun i j => decide (i < j)) (wB (gInt1 fun i => if i < 0 then -i else i) (wCons (wVar 0) wNil)) (wOp (gInt CPow fun i j => i ^ j.toNat) (wC (.int 10)) (wC (.int 18))))) (wtOn (wChain (gCmp fun i j => decide (i < j)) (gCmp fun i j => decide (i < j)) (wUn (fun i => -i) (wC (.int 28))) (wVar 1) (wC (.int 28)))))
  (wsSet 6 (wCall SP_law_mix (wCons (wVar 0) (wCons (wVar 4) wNil))))
  wsNil)
  (wSeqS (wMut 3 gApp (wCons (wTup (wCons (wOp gIdx (wC (.str "abcz")) (wOp (gInt (fun _ j => 0 < j) fun i j => i % j) (wVar 6) (wC (.int 4)))) (wCons (wOp (gInt0 fun i j => i - j) (wOp (gInt (fun _ j => 0 < j) fun i j => i % j) (wOp (gInt CDivW fun i j => i / j) (wVar 6) (wC (.int 4))) (wC (.int 7))) (wC (.int 3))) wNil))) wNil))
  (wsSet 1 (wOp (gInt CDivW fun i j => i / j) (wVar 1) (wC (.int 28))))))))
  (wsRetOwn 3)))))))
theorem pure_law_pieces (ds : List D) (x : XS) (R : Rt → Prop) (h : SP_law_pieces ds x R) : W_law_pieces (endsOf R x) (startE 7 ds) := by
  obtain ⟨cell, rfl, q⟩ := h
  have z1 := az_sz
  have z2 := abcz_sz
  unfold lawPieces at q
  simp only [W_law_pieces, wVar, wOwn, wC, wOp, onBl, wtOn, wChain, trD, wtVal, wtNot, wAnd, wOr, wAndV, wOrV, wNotV, wIf, wNil, wCons, wTup, wLst, wUn, wNew, gAdd, gInt, gInt0, gMul, gCatF, gRepF, wOpF, gEq, gCmp, gInS, gIsN, isN, gIsB, gIdx, woNone, woSome, gSl, wSl, gSlF, wSlF, wB, wBF, gLen, gInt1, gInt2, gToInt, gListF, tyName, gIsT, wIsT, wCall, Rt.d, Cn.d, onNew, wCallF, wCallN, wCallNF, nlR, wgName, wgNil, wgCons, wgTup, wSeq, wSeqT, wSigns, wRng1, wRng2, wRng3, wRev, wEnum, wZip, wLc, wtYes, wsNil, wsBrk, wsCnt, wsExpr, wsRet, wsRetF, wsRetOwn, wsRetN, wIfS, wsSet, wsSetF, wsAsg, wsPar, wsAug, gApp, gExt, gPop0, gRev, wMut, wsSetIx, wFor, wsRaise, wSeqS, wFrz, wsCallM, wsPopAdd, endsOf, endM, endsM, startM, startE, wipeE, smallI, CPow, Br_true, Br_false, Br_not, rngD_eq, dC, dP, dI, ex_atI_map, atI0, atI1, atI2, kit1, kit2, kit3, kit4, kit5, kit6, kit7, kit8, kit9, kit10, kit11, kit12, kit13, kit14, kit15, kit16, kit17, kit18, kit19, kit20, kit21, kit22, kit23, kit24, kit25, kit26, kit27, kit28, kit29, kit30, kit31, kit32, kit33, kit34, kit35, sizeLine_eq, true_and, and_true, exists_eq_left', Option.some.injEq, List.map_cons, List.map_nil, List.length_cons, List.length_nil, List.length_map, List.length_append, List.cons_append, List.nil_append, List.set_cons_zero, List.set_cons_succ, List.getElem?_cons_zero, List.getElem?_cons_succ, List.getElem?_nil, Nat.reduceSub, Nat.reduceAdd, Nat.zero_add, Nat.sub_self, List.replicate_succ, List.replicate_zero, Bool.false_bne, Bool.true_bne, Bool.false_xor, Bool.true_xor, Bool.not_true, Bool.not_false, Bool.not_not, beq_self_eq_true, Bool.and_true, Bool.true_and, nl, nls, decide_true, decide_false, exists_eq_left, Bool.false_eq_true, Option.some_inj, Int.reduceToNat, Int.reducePow, Int.reduceMul, Int.reduceSub, Int.reduceAdd, Int.reduceNeg, Nat.reducePow, Nat.reduceLeDiff, Int.reduceLE, Int.reduceLT, Int.reduceAbs, Int.natAbs_neg, Nat.reduceLT, divW_eq, mulW_eq, Bool.or_true, Bool.true_or, cut_map, ← List.map_append, ← List.map_reverse, castN, eq_self, Int.reduceEq, deqC, deq_self, rep_map, nls_dP, wsAugIx, tx_cps, tx_len, tx_app, tx_one, tx_nil, tx_cut, tx_signs, tx_rep, lit_empty, tx_inj, wJoin, gJoin, wmCall, wmOpL, wmOpR, wmIxR, wmTup2, wsSetM, wsAppM, wForM, gSum, gAny, gAll, gLtD, gInT, gSorted, gAddT, wThaw, gMaxL, wIsE, wIsV, wCallE, wTry, DEnds.off, gInB, wDct0, wCntB, wIdxB, wTryF, wIdxS, gInX, wGetDI, wsSetKeyI, gInDI, dctOf, gIns, gTup, wDct1, gEqR, wsSetG, wgd0, wgdC, wLck, wDctL, wGetD, dctOf, wsSetKey, wItems, wSortI, wsCallMD, endsMD, endMD, startMD, wFld, wsSetFld, wsAddFld, isO_rfl, wMeth, wMethF, wMethN, wmMeth, wsExprM, wsRetM, wmOne, wmCons, wMake, wmMake, wsSetMk, gToIntS, endsO, endO, startO, List.getElem?_cons_succ, wsSetV]
  refine Br.d (fun h5 => ?_) (fun h5 => ?_)
  · walk_at "s"
    refine ⟨z1, ?_⟩
    obtain ⟨c, e, e2, _⟩ := lawSign_at (s := "abcdefghijklmnopqrstuvwxyz") (i := cell / 5 % 26) (by omega) (by rw [az_len]; omega) az_ok
    refine ⟨c, e, ?_⟩
    rw [e2]
    rw [if_pos h5] at q
    simpa [dP] using q
  · rw [if_neg h5] at q
    walk_at "s"
    refine ⟨by omega, ?_⟩
    refine loop_ind (S := List Pc × Int × Sl × Sl × Sl) D.int (fun s => [.fz (.int cell), .fz (.int s.2.1), .fz (.int (cell / 5 % 13)), .own false (.lst (s.1.map dP)), s.2.2.1, s.2.2.2.1, s.2.2.2.2])
      (fun ks s => s.1 ++ lawPcs cell ks s.2.1 = lawPcs cell (rng 0 1 (cell / 5 % 13).toNat) (cell / 5 / 13) ∧ s.1.length + ks.length ≤ 100 ∧ ∀ k ∈ ks, 0 ≤ k ∧ k ≤ 100) ?_ ?_ _ ([], cell / 5 / 13, .un, .un, .un) ?_
    · rintro ⟨acc, rest, s4, s5, s6⟩ ⟨e, _, _⟩
      simp only [wVar, wOwn, wC, wOp, onBl, wtOn, wChain, trD, wtVal, wtNot, wAnd, wOr, wAndV, wOrV, wNotV, wIf, wNil, wCons, wTup, wLst, wUn, wNew, gAdd, gInt, gInt0, gMul, gCatF, gRepF, wOpF, gEq, gCmp, gInS, gIsN, isN, gIsB, gIdx, woNone, woSome, gSl, wSl, gSlF, wSlF, wB, wBF, gLen, gInt1, gInt2, gToInt, gListF, tyName, gIsT, wIsT, wCall, Rt.d, Cn.d, onNew, wCallF, wCallN, wCallNF, nlR, wgName, wgNil, wgCons, wgTup, wSeq, wSeqT, wSigns, wRng1, wRng2, wRng3, wRev, wEnum, wZip, wLc, wtYes, wsNil, wsBrk, wsCnt, wsExpr, wsRet, wsRetF, wsRetOwn, wsRetN, wIfS, wsSet, wsSetF, wsAsg, wsPar, wsAug, gApp, gExt, gPop0, gRev, wMut, wsSetIx, wFor, wsRaise, wSeqS, wFrz, wsCallM, wsPopAdd, endsOf, endM, endsM, startM, startE, wipeE, smallI, CPow, Br_true, Br_false, Br_not, rngD_eq, dC, dP, dI, ex_atI_map, atI0, atI1, atI2, kit1, kit2, kit3, kit4, kit5, kit6, kit7, kit8, kit9, kit10, kit11, kit12, kit13, kit14, kit15, kit16, kit17, kit18, kit19, kit20, kit21, kit22, kit23, kit24, kit25, kit26, kit27, kit28, kit29, kit30, kit31, kit32, kit33, kit34, kit35, sizeLine_eq, true_and, and_true, exists_eq_left', Option.some.injEq, List.map_cons, List.map_nil, List.length_cons, List.length_nil, List.length_map, List.length_append, List.cons_append, List.nil_append, List.set_cons_zero, List.set_cons_succ, List.getElem?_cons_zero, List.getElem?_cons_succ, List.getElem?_nil, Nat.reduceSub, Nat.reduceAdd, Nat.zero_add, Nat.sub_self, List.replicate_succ, List.replicate_zero, Bool.false_bne, Bool.true_bne, Bool.false_xor, Bool.true_xor, Bool.not_true, Bool.not_false, Bool.not_not, beq_self_eq_true, Bool.and_true, Bool.true_and, nl, nls, decide_true, decide_false, exists_eq_left, Bool.false_eq_true, Option.some_inj, Int.reduceToNat, Int.reducePow, Int.reduceMul, Int.reduceSub, Int.reduceAdd, Int.reduceNeg, Nat.reducePow, Nat.reduceLeDiff, Int.reduceLE, Int.reduceLT, Int.reduceAbs, Int.natAbs_neg, Nat.reduceLT, divW_eq, mulW_eq, Bool.or_true, Bool.true_or, cut_map, ← List.map_append, ← List.map_reverse, castN, eq_self, Int.reduceEq, deqC, deq_self, rep_map, nls_dP, wsAugIx, tx_cps, tx_len, tx_app, tx_one, tx_nil, tx_cut, tx_signs, tx_rep, lit_empty, tx_inj, wJoin, gJoin, wmCall, wmOpL, wmOpR, wmIxR, wmTup2, wsSetM, wsAppM, wForM, gSum, gAny, gAll, gLtD, gInT, gSorted, gAddT, wThaw, gMaxL, wIsE, wIsV, wCallE, wTry, DEnds.off, gInB, wDct0, wCntB, wIdxB, wTryF, wIdxS, gInX, wGetDI, wsSetKeyI, gInDI, dctOf, gIns, gTup, wDct1, gEqR, wsSetG, wgd0, wgdC, wLck, wDctL, wGetD, dctOf, wsSetKey, wItems, wSortI, wsCallMD, endsMD, endMD, startMD, wFld, wsSetFld, wsAddFld, isO_rfl, wMeth, wMethF, wMethN, wmMeth, wsExprM, wsRetM, wmOne, wmCons, wMake, wmMake, wsSetMk, gToIntS, endsO, endO, startO, List.getElem?_cons_succ, wsSetV]
      simp only [lawPcs, List.append_nil] at e
      rw [e]
      exact q
    · rintro k ks ⟨acc, rest, s4, s5, s6⟩ L ⟨e, hl, hk⟩ ih
      have hk0 := hk k (by simp)
      simp only at e hl
      rw [List.length_cons] at hl
      have fin : ∀ v, v = lawVal cell rest k → (Str.ofString "abcz").length ≤ 16777216 ∧ ∃ c, atI (Str.ofString "abcz").cps.toList (v % 4) = some c ∧ acc.length < 16777216 ∧
          L [.fz (.int cell), .fz (.int (rest / 28)), .fz (.int (cell / 5 % 13)), .own false (.lst (acc.map dP ++ [D.tup [.str (tx [c]), .int (v / 4 % 7 - 3)]])), .fz (.int k), s5, .fz (.int v)] := fun v hv => by
        obtain ⟨c, e1, e2, _⟩ := lawSign_at (s := "abcz") (i := v % 4) (by omega) (by rw [abcz_len]; omega) abcz_ok
        refine ⟨z2, c, e1, by omega, ?_⟩
        have := ih (acc ++ [lawPc v], rest / 28, .fz (.int k), s5, .fz (.int v)) ⟨?_, by simp; omega, fun j hj => hk j (by simp [hj])⟩
        · simpa [dP, lawPc, e2] using this
        · rw [← e, hv]
          simp [lawPcs]
      simp only [wVar, wOwn, wC, wOp, onBl, wtOn, wChain, trD, wtVal, wtNot, wAnd, wOr, wAndV, wOrV, wNotV, wIf, wNil, wCons, wTup, wLst, wUn, wNew, gAdd, gInt, gInt0, gMul, gCatF, gRepF, wOpF, gEq, gCmp, gInS, gIsN, isN, gIsB, gIdx, woNone, woSome, gSl, wSl, gSlF, wSlF, wB, wBF, gLen, gInt1, gInt2, gToInt, gListF, tyName, gIsT, wIsT, wCall, Rt.d, Cn.d, onNew, wCallF, wCallN, wCallNF, nlR, wgName, wgNil, wgCons, wgTup, wSeq, wSeqT, wSigns, wRng1, wRng2, wRng3, wRev, wEnum, wZip, wLc, wtYes, wsNil, wsBrk, wsCnt, wsExpr, wsRet, wsRetF, wsRetOwn, wsRetN, wIfS, wsSet, wsSetF, wsAsg, wsPar, wsAug, gApp, gExt, gPop0, gRev, wMut, wsSetIx, wFor, wsRaise, wSeqS, wFrz, wsCallM, wsPopAdd, endsOf, endM, endsM, startM, startE, wipeE, smallI, CPow, Br_true, Br_false, Br_not, rngD_eq, dC, dP, dI, ex_atI_map, atI0, atI1, atI2, kit1, kit2, kit3, kit4, kit5, kit6, kit7, kit8, kit9, kit10, kit11, kit12, kit13, kit14, kit15, kit16, kit17, kit18, kit19, kit20, kit21, kit22, kit23, kit24, kit25, kit26, kit27, kit28, kit29, kit30, kit31, kit32, kit33, kit34, kit35, sizeLine_eq, true_and, and_true, exists_eq_left', Option.some.injEq, List.map_cons, List.map_nil, List.length_cons, List.length_nil, List.length_map, List.length_append, List.cons_append, List.nil_append, List.set_cons_zero, List.set_cons_succ, List.getElem?_cons_zero, List.getElem?_cons_succ, List.getElem?_nil, Nat.reduceSub, Nat.reduceAdd, Nat.zero_add, Nat.sub_self, List.replicate_succ, List.replicate_zero, Bool.false_bne, Bool.true_bne, Bool.false_xor, Bool.true_xor, Bool.not_true, Bool.not_false, Bool.not_not, beq_self_eq_true, Bool.and_true, Bool.true_and, nl, nls, decide_true, decide_false, exists_eq_left, Bool.false_eq_true, Option.some_inj, Int.reduceToNat, Int.reducePow, Int.reduceMul, Int.reduceSub, Int.reduceAdd, Int.reduceNeg, Nat.reducePow, Nat.reduceLeDiff, Int.reduceLE, Int.reduceLT, Int.reduceAbs, Int.natAbs_neg, Nat.reduceLT, divW_eq, mulW_eq, Bool.or_true, Bool.true_or, cut_map, ← List.map_append, ← List.map_reverse, castN, eq_self, Int.reduceEq, deqC, deq_self, rep_map, nls_dP, wsAugIx, tx_cps, tx_len, tx_app, tx_one, tx_nil, tx_cut, tx_signs, tx_rep, lit_empty, tx_inj, wJoin, gJoin, wmCall, wmOpL, wmOpR, wmIxR, wmTup2, wsSetM, wsAppM, wForM, gSum, gAny, gAll, gLtD, gInT, gSorted, gAddT, wThaw, gMaxL, wIsE, wIsV, wCallE, wTry, DEnds.off, gInB, wDct0, wCntB, wIdxB, wTryF, wIdxS, gInX, wGetDI, wsSetKeyI, gInDI, dctOf, gIns, gTup, wDct1, gEqR, wsSetG, wgd0, wgdC, wLck, wDctL, wGetD, dctOf, wsSetKey, wItems, wSortI, wsCallMD, endsMD, endMD, startMD, wFld, wsSetFld, wsAddFld, isO_rfl, wMeth, wMethF, wMethN, wmMeth, wsExprM, wsRetM, wmOne, wmCons, wMake, wmMake, wsSetMk, gToIntS, endsO, endO, startO, List.getElem?_cons_succ, wsSetV]
      refine Br.d (fun h1 => ?_) (fun h1 => ?_)
      · walk_at "s"
        refine ⟨cell, k, rfl, hk0.1, by omega, ?_⟩
        walk_at "s"
        refine fin _ ?_
        unfold lawVal
        rw [if_pos (.inl h1)]
      walk_at "s"
      refine Br.d (fun h2 => ?_) (fun h2 => ?_)
      · walk_at "s"
        refine Br.d (fun h3 => ?_) (fun h3 => ?_)
        · walk_at "s"
          refine ⟨cell, k, rfl, hk0.1, by omega, ?_⟩
          walk_at "s"
          refine fin _ ?_
          unfold lawVal
          rw [if_pos (.inr ⟨h2, h3⟩)]
        · walk_at "s"
          refine fin _ ?_
          unfold lawVal
          rw [if_neg (fun z => z.elim h1 fun z => h3 z.2)]
      · walk_at "s"
        refine fin _ ?_
        unfold lawVal
        rw [if_neg (fun z => z.elim h1 fun z => h2 z.1)]
    · refine ⟨rfl, by rw [rng_len]; simp; omega, fun k hk => ?_⟩
      obtain ⟨i, hi, e⟩ := mem_rng hk
      omega
--@ law_cord
/-- some good cord of at most so many pieces -/
def SP_law_cord : Spec := fun ds _ R => ∃ (ns : List Int) (i j m : Int), ds = [.scr ns, .int i, .int j, .int m] ∧ ns.length ≤ 63 ∧ 0 ≤ i ∧ i ≤ 1000 ∧ 0 ≤ j ∧ j ≤ 1000 ∧ 0 ≤ m ∧ m ≤ 1000 ∧ ∀ c : List Pc, c.length ≤ m → Gds (10 ^ 30) c → R (.val (dC c))
theorem len_law_cord (ds : List D) (x : XS) (R : Rt → Prop) (h : SP_law_cord ds x R) : ds.length = ["_law_script", "_law_first", "_law_last", "_law_most"].length := by
  obtain ⟨ns, i, j, m, rfl, _⟩ := h; rfl
def W_law_cord : WS :=
  (wSeqS (wsSet 4 (wNew (wLst wNil)))
  (wSeqS (wFor (wSeq (wOp gAdd (wNew (wLst (wCons (wCall SP_law_at (wCons (wVar 0) (wCons (wVar 1) wNil))) wNil))) (wSl (wVar 0) (woSome (wOp gAdd (wVar 1) (wC (.int 1)))) (woSome (wVar 2))))) (wgName 5)
  (wSeqS (wsSet 6 (wOp (gInt (fun _ j => 0 < j) fun i j => i % j) (wOp (gInt CDivW fun i j => i / j) (wVar 5) (wC (.int 5))) (wOp gAdd (wB gLen (wCons (wVar 4) wNil)) (wC (.int 1)))))
  (wSeqS (wIfS (wtOn (wOp (gEq false) (wOp (gInt (fun _ j => 0 < j) fun i j => i % j) (wVar 5) (wC (.int 5))) (wC (.int 3))))
  (wsSet 4 (wOp gAdd (wVar 4) (wCall SP_law_contrary (wCons (wSl (wVar 4) (woSome (wVar 6)) woNone) wNil))))
  (wIfS (wtOn (wOp (gEq false) (wOp (gInt (fun _ j => 0 < j) fun i j => i % j) (wVar 5) (wC (.int 5))) (wC (.int 4))))
  (wSeqS (wsSet 7 (wCall SP_law_pieces (wCons (wOp (gInt CDivW fun i j => i / j) (wVar 5) (wC (.int 5))) wNil)))
  (wSeqS (wsSet 7 (wOp gAdd (wVar 7) (wCall SP_law_contrary (wCons (wVar 7) wNil))))
  (wsSet 4 (wOp gAdd (wOp gAdd (wSl (wVar 4) woNone (woSome (wVar 6))) (wVar 7)) (wSl (wVar 4) (woSome (wVar 6)) woNone)))))
  (wsSet 4 (wOp gAdd (wVar 4) (wCall SP_law_pieces (wCons (wVar 5) wNil))))))
  (wsSet 4 (wSl (wVar 4) woNone (woSome (wVar 3)))))))
  (wsRet (wVar 4))))
theorem pure_law_cord (ds : List D) (x : XS) (R : Rt → Prop) (h : SP_law_cord ds x R) : W_law_cord (endsOf R x) (startE 8 ds) := by
  obtain ⟨ns, i, j, m, rfl, hn, hi, hi2, hj, hj2, hm, hm2, q⟩ := h
  simp only [W_law_cord, wVar, wOwn, wC, wOp, onBl, wtOn, wChain, trD, wtVal, wtNot, wAnd, wOr, wAndV, wOrV, wNotV, wIf, wNil, wCons, wTup, wLst, wUn, wNew, gAdd, gInt, gInt0, gMul, gCatF, gRepF, wOpF, gEq, gCmp, gInS, gIsN, isN, gIsB, gIdx, woNone, woSome, gSl, wSl, gSlF, wSlF, wB, wBF, gLen, gInt1, gInt2, gToInt, gListF, tyName, gIsT, wIsT, wCall, Rt.d, Cn.d, onNew, wCallF, wCallN, wCallNF, nlR, wgName, wgNil, wgCons, wgTup, wSeq, wSeqT, wSigns, wRng1, wRng2, wRng3, wRev, wEnum, wZip, wLc, wtYes, wsNil, wsBrk, wsCnt, wsExpr, wsRet, wsRetF, wsRetOwn, wsRetN, wIfS, wsSet, wsSetF, wsAsg, wsPar, wsAug, gApp, gExt, gPop0, gRev, wMut, wsSetIx, wFor, wsRaise, wSeqS, wFrz, wsCallM, wsPopAdd, endsOf, endM, endsM, startM, startE, wipeE, smallI, CPow, Br_true, Br_false, Br_not, rngD_eq, dC, dP, dI, ex_atI_map, atI0, atI1, atI2, kit1, kit2, kit3, kit4, kit5, kit6, kit7, kit8, kit9, kit10, kit11, kit12, kit13, kit14, kit15, kit16, kit17, kit18, kit19, kit20, kit21, kit22, kit23, kit24, kit25, kit26, kit27, kit28, kit29, kit30, kit31, kit32, kit33, kit34, kit35, sizeLine_eq, true_and, and_true, exists_eq_left', Option.some.injEq, List.map_cons, List.map_nil, List.length_cons, List.length_nil, List.length_map, List.length_append, List.cons_append, List.nil_append, List.set_cons_zero, List.set_cons_succ, List.getElem?_cons_zero, List.getElem?_cons_succ, List.getElem?_nil, Nat.reduceSub, Nat.reduceAdd, Nat.zero_add, Nat.sub_self, List.replicate_succ, List.replicate_zero, Bool.false_bne, Bool.true_bne, Bool.false_xor, Bool.true_xor, Bool.not_true, Bool.not_false, Bool.not_not, beq_self_eq_true, Bool.and_true, Bool.true_and, nl, nls, decide_true, decide_false, exists_eq_left, Bool.false_eq_true, Option.some_inj, Int.reduceToNat, Int.reducePow, Int.reduceMul, Int.reduceSub, Int.reduceAdd, Int.reduceNeg, Nat.reducePow, Nat.reduceLeDiff, Int.reduceLE, Int.reduceLT, Int.reduceAbs, Int.natAbs_neg, Nat.reduceLT, divW_eq, mulW_eq, Bool.or_true, Bool.true_or, cut_map, ← List.map_append, ← List.map_reverse, castN, eq_self, Int.reduceEq, deqC, deq_self, rep_map, nls_dP, wsAugIx, tx_cps, tx_len, tx_app, tx_one, tx_nil, tx_cut, tx_signs, tx_rep, lit_empty, tx_inj, wJoin, gJoin, wmCall, wmOpL, wmOpR, wmIxR, wmTup2, wsSetM, wsAppM, wForM, gSum, gAny, gAll, gLtD, gInT, gSorted, gAddT, wThaw, gMaxL, wIsE, wIsV, wCallE, wTry, DEnds.off, gInB, wDct0, wCntB, wIdxB, wTryF, wIdxS, gInX, wGetDI, wsSetKeyI, gInDI, dctOf, gIns, gTup, wDct1, gEqR, wsSetG, wgd0, wgdC, wLck, wDctL, wGetD, dctOf, wsSetKey, wItems, wSortI, wsCallMD, endsMD, endMD, startMD, wFld, wsSetFld, wsAddFld, isO_rfl, wMeth, wMethF, wMethN, wmMeth, wsExprM, wsRetM, wmOne, wmCons, wMake, wmMake, wsSetMk, gToIntS, endsO, endO, startO, List.getElem?_cons_succ, wsSetV]
  refine ⟨ns, i, rfl, hi, ?_⟩
  walk_at "s"
  have hcut : (cut ns (some (i + 1)) (some j)).length ≤ ns.length := cut_len
  refine ⟨by omega, ?_⟩
  rw [← List.map_cons]
  refine loop_ind (S := List Pc × Sl × Sl × Sl) D.int (fun s => [.fz (.scr ns), .fz (.int i), .fz (.int j), .fz (.int m), .fz (.lst (s.1.map dP)), s.2.1, s.2.2.1, s.2.2.2])
    (fun _ s => s.1.length ≤ m ∧ Gds (10 ^ 30) s.1) ?_ ?_ _ ([], .un, .un, .un) ⟨by simpa using hm, .nil⟩
  · rintro ⟨c, s5, s6, s7⟩ ⟨h1, h2⟩
    walk_at "s"
    exact q c h1 h2
  · rintro k r ⟨c, s5, s6, s7⟩ L ⟨h1, h2⟩ ih
    simp only at h1 h2
    have fin : ∀ (d : List Pc) s5 s6 s7, Gds (10 ^ 30) d → L [.fz (.scr ns), .fz (.int i), .fz (.int j), .fz (.int m), .fz (.lst ((d.take m.toNat).map dP)), s5, s6, s7] := fun d s5 s6 s7 hd =>
      ih (d.take m.toNat, s5, s6, s7) ⟨by simp only [List.length_take]; omega, hd.sub fun p hp => List.mem_of_mem_take hp⟩
    have lp := fun x => lawPieces_len x
    have gp := fun x => lawPieces_gd x
    have a0 : 0 ≤ k / 5 % ((c.length : Int) + 1) := Int.emod_nonneg _ (by omega)
    have a1 : k / 5 % ((c.length : Int) + 1) < (c.length : Int) + 1 := Int.emod_lt_of_pos _ (by omega)
    walk_at "s"
    refine ⟨by omega, ?_⟩
    have hc1 : (cut c (some (k / 5 % ((c.length : Int) + 1))) none).length ≤ c.length := cut_len
    have hc2 : (cut c none (some (k / 5 % ((c.length : Int) + 1)))).length ≤ c.length := cut_len
    have g1 : Gds (10 ^ 30) (cut c (some (k / 5 % ((c.length : Int) + 1))) none) := h2.sub fun p hp => cut_mem hp
    have g2 : Gds (10 ^ 30) (cut c none (some (k / 5 % ((c.length : Int) + 1)))) := h2.sub fun p hp => cut_mem hp
    have mm : ∀ d : List Pc, cut d none (some m) = d.take m.toNat := fun d => cut_to hm
    refine Br.d (fun h3 => ?_) (fun h3 => ?_)
    · walk_at "s"
      generalize k / 5 % ((c.length : Int) + 1) = a at g1 hc1 ⊢
      refine ⟨cut c (some a) none, rfl, by omega, ?_⟩
      walk_at "s"
      have := con_len (cut c (some a) none)
      refine ⟨by omega, ?_⟩
      rw [mm]
      exact fin _ _ _ _ (h2.app (con_gd g1))
    · walk_at "s"
      refine Br.d (fun h4 => ?_) (fun h4 => ?_)
      · walk_at "s"
        refine ⟨k / 5, rfl, ?_⟩
        have b1 := lp (k / 5)
        have b2 := con_len (lawPieces (k / 5))
        walk_at "s"
        refine ⟨lawPieces (k / 5), rfl, by omega, ?_⟩
        walk_at "s"
        rw [mm]
        refine ⟨by omega, by omega, by omega, ?_⟩
        generalize k / 5 % ((c.length : Int) + 1) = a at g1 g2 ⊢
        exact fin _ _ _ _ ((g2.app ((gp _).app (con_gd (gp _)))).app g1)
      · walk_at "s"
        refine ⟨k, rfl, ?_⟩
        have b1 := lp k
        walk_at "s"
        refine ⟨by omega, ?_⟩
        rw [mm]
        exact fin _ _ _ _ (h2.app (gp _))
--@ Open___init__
def SP_Open___init__ : SpecO := fun c ds _ R => ∃ s : D, c = .obj "Open" [] [] ∧ ds = [s] ∧ R (.obj "Open" ["nail", "turns", "places"] [s, .int 0, .lst []]) .non
theorem len_Open___init__ (c : Cn) (ds : List D) (x : XS) (R : Cn → D → Prop) (h : SP_Open___init__ c ds x R) : ds.length + 1 = ["self", "nail"].length := by
  obtain ⟨s, rfl, rfl, _⟩ := h; rfl
def W_Open___init__ : WS :=
  (wSeqS (wsAddFld 0 "Open" [] "nail" (wVar 1))
  (wSeqS (wsAddFld 0 "Open" ["nail"] "turns" (wC (.int 0)))
  (wsAddFld 0 "Open" ["nail", "turns"] "places" (wNew (wLst wNil)))))
theorem pure_Open___init__ (c : Cn) (ds : List D) (x : XS) (R : Cn → D → Prop) (h : SP_Open___init__ c ds x R) : W_Open___init__ (endsO R x) (startO 2 c ds) := by
  obtain ⟨s, rfl, rfl, q⟩ := h
  simp only [W_Open___init__, wVar, wOwn, wC, wOp, onBl, wtOn, wChain, trD, wtVal, wtNot, wAnd, wOr, wAndV, wOrV, wNotV, wIf, wNil, wCons, wTup, wLst, wUn, wNew, gAdd, gInt, gInt0, gMul, gCatF, gRepF, wOpF, gEq, gCmp, gInS, gIsN, isN, gIsB, gIdx, woNone, woSome, gSl, wSl, gSlF, wSlF, wB, wBF, gLen, gInt1, gInt2, gToInt, gListF, tyName, gIsT, wIsT, wCall, Rt.d, Cn.d, onNew, wCallF, wCallN, wCallNF, nlR, wgName, wgNil, wgCons, wgTup, wSeq, wSeqT, wSigns, wRng1, wRng2, wRng3, wRev, wEnum, wZip, wLc, wtYes, wsNil, wsBrk, wsCnt, wsExpr, wsRet, wsRetF, wsRetOwn, wsRetN, wIfS, wsSet, wsSetF, wsAsg, wsPar, wsAug, gApp, gExt, gPop0, gRev, wMut, wsSetIx, wFor, wsRaise, wSeqS, wFrz, wsCallM, wsPopAdd, endsOf, endM, endsM, startM, startE, wipeE, smallI, CPow, Br_true, Br_false, Br_not, rngD_eq, dC, dP, dI, ex_atI_map, atI0, atI1, atI2, kit1, kit2, kit3, kit4, kit5, kit6, kit7, kit8, kit9, kit10, kit11, kit12, kit13, kit14, kit15, kit16, kit17, kit18, kit19, kit20, kit21, kit22, kit23, kit24, kit25, kit26, kit27, kit28, kit29, kit30, kit31, kit32, kit33, kit34, kit35, sizeLine_eq, true_and, and_true, exists_eq_left', Option.some.injEq, List.map_cons, List.map_nil, List.length_cons, List.length_nil, List.length_map, List.length_append, List.cons_append, List.nil_append, List.set_cons_zero, List.set_cons_succ, List.getElem?_cons_zero, List.getElem?_cons_succ, List.getElem?_nil, Nat.reduceSub, Nat.reduceAdd, Nat.zero_add, Nat.sub_self, List.replicate_succ, List.replicate_zero, Bool.false_bne, Bool.true_bne, Bool.false_xor, Bool.true_xor, Bool.not_true, Bool.not_false, Bool.not_not, beq_self_eq_true, Bool.and_true, Bool.true_and, nl, nls, decide_true, decide_false, exists_eq_left, Bool.false_eq_true, Option.some_inj, Int.reduceToNat, Int.reducePow, Int.reduceMul, Int.reduceSub, Int.reduceAdd, Int.reduceNeg, Nat.reducePow, Nat.reduceLeDiff, Int.reduceLE, Int.reduceLT, Int.reduceAbs, Int.natAbs_neg, Nat.reduceLT, divW_eq, mulW_eq, Bool.or_true, Bool.true_or, cut_map, ← List.map_append, ← List.map_reverse, castN, eq_self, Int.reduceEq, deqC, deq_self, rep_map, nls_dP, wsAugIx, tx_cps, tx_len, tx_app, tx_one, tx_nil, tx_cut, tx_signs, tx_rep, lit_empty, tx_inj, wJoin, gJoin, wmCall, wmOpL, wmOpR, wmIxR, wmTup2, wsSetM, wsAppM, wForM, gSum, gAny, gAll, gLtD, gInT, gSorted, gAddT, wThaw, gMaxL, wIsE, wIsV, wCallE, wTry, DEnds.off, gInB, wDct0, wCntB, wIdxB, wTryF, wIdxS, gInX, wGetDI, wsSetKeyI, gInDI, dctOf, gIns, gTup, wDct1, gEqR, wsSetG, wgd0, wgdC, wLck, wDctL, wGetD, dctOf, wsSetKey, wItems, wSortI, wsCallMD, endsMD, endMD, startMD, wFld, wsSetFld, wsAddFld, isO_rfl, wMeth, wMethF, wMethN, wmMeth, wsExprM, wsRetM, wmOne, wmCons, wMake, wmMake, wsSetMk, gToIntS, endsO, endO, startO, List.getElem?_cons_succ, wsSetV]
  exact q
--@ Open_take

--@ blocks_of
abbrev Bst := List (Str × Int × List Int) × List (List Int)
def bstep (s : Bst) (k : Int) (p : Pc) : Bst :=
  if p.2 = 0 then (s.1, s.2 ++ [[k]]) else
  match s.1 with
  | [] => ((p.1, p.2, [k]) :: [], s.2)
  | (n, t, is) :: r => if n = p.1 then (if t + p.2 = 0 then (r, s.2 ++ [is ++ [k]]) else ((n, t + p.2, is ++ [k]) :: r, s.2)) else ((p.1, p.2, [k]) :: (n, t, is) :: r, s.2)
def bst (c : List Pc) : Nat → Bst
  | 0 => ([], [])
  | i + 1 => match c[i]? with
    | some p => bstep (bst c i) i p
    | none => bst c i
def stkB (s : Bst) : List Pc := s.1.map fun e => (e.1, e.2.1)
theorem stk_bstep (s : Bst) (k : Int) (p : Pc) : stkB (bstep s k p) = stk (stkB s) p := by
  obtain ⟨st, dn⟩ := s
  unfold bstep stk ps
  by_cases h0 : p.2 = 0
  · rw [if_pos h0, if_pos h0]; rfl
  · rw [if_neg h0, if_neg h0]
    cases st with
    | nil => rfl
    | cons e r =>
      obtain ⟨n, t, is⟩ := e
      show stkB (if n = p.1 then _ else _) = if n = p.1 then _ else _
      by_cases h1 : n = p.1
      · rw [if_pos h1, if_pos h1]
        by_cases h2 : t + p.2 = 0
        · rw [if_pos h2, if_pos (by show p.2 + t = 0; omega)]; rfl
        · rw [if_neg h2, if_neg (by show ¬ p.2 + t = 0; omega)]
          show (n, t + p.2) :: _ = (p.1, p.2 + t) :: _
          rw [h1, Int.add_comm]
      · rw [if_neg h1, if_neg h1]; rfl
theorem bst_stk (c : List Pc) : ∀ i, stkB (bst c i) = (c.take i).foldl stk []
  | 0 => rfl
  | i + 1 => by
    have ih := bst_stk c i
    unfold bst
    cases h : c[i]? with
    | none =>
      have hl := List.getElem?_eq_none_iff.mp h
      rw [List.take_of_length_le (by omega)]
      rw [List.take_of_length_le hl] at ih
      exact ih
    | some p =>
      obtain ⟨hl, e⟩ := List.getElem?_eq_some_iff.mp h
      rw [List.take_add_one, h, List.foldl_append, ← ih]
      exact stk_bstep _ _ _
def BLen (s : Bst) (i : Nat) : Prop := s.1.length ≤ i ∧ s.2.length ≤ i ∧ ∀ e ∈ s.1, e.2.2.length ≤ i
theorem bstep_len {s : Bst} {i : Nat} (k : Int) (p : Pc) (h : BLen s i) : BLen (bstep s k p) (i + 1) := by
  obtain ⟨st, dn⟩ := s
  obtain ⟨h1, h2, h3⟩ := h
  simp only at h1 h2 h3
  unfold bstep
  split
  · exact ⟨by show st.length ≤ _; omega, by show (dn ++ _).length ≤ _; simp; omega, fun e he => by have := h3 e he; omega⟩
  · cases st with
    | nil => exact ⟨by simp, by show dn.length ≤ _; omega, fun e he => by simp at he; subst he; simp⟩
    | cons e r =>
      obtain ⟨n, t, is⟩ := e
      simp only [List.length_cons] at h1
      have hi : is.length ≤ i := h3 (n, t, is) (.head _)
      show BLen (if n = p.1 then _ else _) _
      split
      · split
        · exact ⟨by show r.length ≤ _; omega, by show (dn ++ _).length ≤ _; simp; omega, fun e he => by have := h3 e (.tail _ he); omega⟩
        · refine ⟨by simp; omega, by show dn.length ≤ _; omega, fun e he => ?_⟩
          rcases List.mem_cons.mp he with rfl | he
          · simp; omega
          · have := h3 e (.tail _ he); omega
      · refine ⟨by simp; omega, by show dn.length ≤ _; omega, fun e he => ?_⟩
        rcases List.mem_cons.mp he with rfl | he
        · simp
        · have := h3 e he; omega
theorem bst_len (c : List Pc) : ∀ i, BLen (bst c i) i
  | 0 => ⟨Nat.le_refl _, Nat.le_refl _, fun e he => by cases he⟩
  | i + 1 => by
    have ih := bst_len c i
    unfold bst
    split
    · exact bstep_len _ _ ih
    · exact ⟨by have := ih.1; omega, by have := ih.2.1; omega, fun e he => by have := ih.2.2 e he; omega⟩
def blk (c : List Pc) : List (List Int) := (bst c c.length).2
def blkD (c : List Pc) : List D := sorD ((blk c).map fun is => D.lst (is.map .int))
theorem srt_ints (L : List (List Int)) : Srt1 (L.map fun is => D.lst (is.map .int)) := by
  have pyi : ∀ is : List Int, py (D.lst (is.map .int)) = .list (is.map PyData.int) := fun is => by
    unfold py
    show PyData.list ((is.map D.int).map (toPy 19)) = _
    rw [List.map_map]
    rfl
  have al : ∀ a b : List Int, PySem.W.alikeAll (a.map PyData.int) (b.map PyData.int) = true := fun a => by
    induction a with
    | nil => intro b; cases b <;> rfl
    | cons x a ih =>
      intro b
      cases b with
      | nil => rfl
      | cons y b => show (true && _) = true; rw [ih b]; rfl
  refine ⟨fun x hx => ?_, fun x hx y hy => ?_, ?_⟩
  · obtain ⟨is, _, rfl⟩ := List.mem_map.mp hx
    show (is.map D.int).all (nb 19) = true
    rw [List.all_map]
    exact List.all_eq_true.mpr fun _ _ => rfl
  · obtain ⟨a, _, rfl⟩ := List.mem_map.mp hx
    obtain ⟨b, _, rfl⟩ := List.mem_map.mp hy
    show PySem.W.alike (py _) (py _) = true
    rw [pyi, pyi]
    exact al a b
  · rw [List.map_map]
    exact PySem.W.Sortable.others fun is => ⟨fun z => (by have := (pyi is).symm.trans z; cases this), fun xs z => by have := (pyi is).symm.trans z; cases this⟩
def SP_blocks_of : Spec := fun ds _ R => ∃ c : List Pc, ds = [dC c] ∧ c.length ≤ 100000 ∧ (nf c ≠ [] → R (.val .non)) ∧ (nf c = [] → R (.new (.lst (blkD c))))
theorem len_blocks_of (ds : List D) (x : XS) (R : Rt → Prop) (h : SP_blocks_of ds x R) : ds.length = ["cord"].length := by
  obtain ⟨c, rfl, _⟩ := h; rfl
def W_blocks_last : WE := wOp gIdx (wOwn 1) (wUn (fun i => -i) (wC (.int 1)))
def W_blocks_rest : WB := wbSeq (wbTake W_blocks_last (wCons (wVar 3) (wCons (wVar 5) wNil))) (wbIf (wtOn (wOp (gEq false) (wFld "Open" ["nail", "turns", "places"] 1 W_blocks_last) (wC (.int 0)))) wbPop wbNil)
def W_blocks_body : WB :=
  wbSeq (wbIf (wtOn (wOp (gEq false) (wVar 5) (wC (.int 0)))) (wbSeq (wbDone (wLst (wCons (wVar 3) wNil))) wbCnt) wbNil)
  (wbSeq (wbIf (wOr (wtOn (wOp (gEq false) (wB gLen (wCons (wOwn 1) wNil)) (wC (.int 0)))) (wtOn (wOp (gEq true) (wFld "Open" ["nail", "turns", "places"] 0 W_blocks_last) (wVar 4)))) (wbWait (wCons (wVar 4) wNil)) wbNil)
  W_blocks_rest)
def W_blocks_of : WS :=
  wSeqS (wsSetF 1 (wLst wNil)) (wSeqS (wsSetF 2 (wLst wNil)) (wSeqS (wBlk (wEnum (wVar 0)) (wgTup 2 (wgCons (wgName 3) (wgCons (wgTup 2 (wgCons (wgName 4) (wgCons (wgName 5) wgNil))) wgNil))) W_blocks_body)
  (wSeqS (wIfS (wtOn (wOp (gCmp fun i j => decide (j < i)) (wB gLen (wCons (wOwn 1) wNil)) (wC (.int 0)))) (wsRet (wC .non)) wsNil)
  (wsRetF (wBF gSorted (wCons (wOwn 2) wNil))))))
def envB (c : List Pc) (st : List Ob) (dn : List Dn) (s3 s4 s5 : Sl) : Ev := [.fz (.lst (c.map dP)), .own false (wtD st), .own false (dnD dn), s3, s4, s5]
def stB (st : List Ob) (dn : List Dn) : Bst := (st.map fun e => (e.n, e.t, e.is), dn.map (·.2))
theorem blocks_rest {c : List Pc} {i : Int} {p : Pc} {e : Ob} {r : List Ob} {dn : List Dn} {J J' : BS → Prop} {s4 : Sl} (h1 : e.is.length < 16777216) (h2 : dn.length < 16777216)
    (hJ : ∀ st' dn', stB st' dn' = (if e.t + p.2 = 0 then (r.map (fun e => (e.n, e.t, e.is)), dn.map (·.2) ++ [e.is ++ [i]]) else ((e.n, e.t + p.2, e.is ++ [i]) :: r.map (fun e => (e.n, e.t, e.is)), dn.map (·.2))) → J ⟨envB c st' dn' (.fz (.int i)) s4 (.fz (.int p.2)), st', dn'⟩) :
    W_blocks_rest J J' ⟨envB c (e :: r) dn (.fz (.int i)) s4 (.fz (.int p.2)), e :: r, dn⟩ := by
  have a1 : ∀ {α : Type} (f : Ob → α), atI ((e :: r).reverse.map f) (-1) = some (f e) := fun f => by rw [List.map_reverse, List.map_cons]; exact atI_rev1
  unfold W_blocks_rest wbSeq wbTake W_blocks_last
  simp only [envB, wtD, a1, wVar, wOwn, wC, wOp, onBl, wtOn, wChain, trD, wtVal, wtNot, wAnd, wOr, wAndV, wOrV, wNotV, wIf, wNil, wCons, wTup, wLst, wUn, wNew, gAdd, gInt, gInt0, gMul, gCatF, gRepF, wOpF, gEq, gCmp, gInS, gIsN, isN, gIsB, gIdx, woNone, woSome, gSl, wSl, gSlF, wSlF, wB, wBF, gLen, gInt1, gInt2, gToInt, gListF, tyName, gIsT, wIsT, wCall, Rt.d, Cn.d, onNew, wCallF, wCallN, wCallNF, nlR, wgName, wgNil, wgCons, wgTup, wSeq, wSeqT, wSigns, wRng1, wRng2, wRng3, wRev, wEnum, wZip, wLc, wtYes, wsNil, wsBrk, wsCnt, wsExpr, wsRet, wsRetF, wsRetOwn, wsRetN, wIfS, wsSet, wsSetF, wsAsg, wsPar, wsAug, gApp, gExt, gPop0, gRev, wMut, wsSetIx, wFor, wsRaise, wSeqS, wFrz, wsCallM, wsPopAdd, endsOf, endM, endsM, startM, startE, wipeE, smallI, CPow, Br_true, Br_false, Br_not, rngD_eq, dC, dP, dI, ex_atI_map, atI0, atI1, atI2, kit1, kit2, kit3, kit4, kit5, kit6, kit7, kit8, kit9, kit10, kit11, kit12, kit13, kit14, kit15, kit16, kit17, kit18, kit19, kit20, kit21, kit22, kit23, kit24, kit25, kit26, kit27, kit28, kit29, kit30, kit31, kit32, kit33, kit34, kit35, sizeLine_eq, true_and, and_true, exists_eq_left', Option.some.injEq, List.map_cons, List.map_nil, List.length_cons, List.length_nil, List.length_map, List.length_append, List.cons_append, List.nil_append, List.set_cons_zero, List.set_cons_succ, List.getElem?_cons_zero, List.getElem?_cons_succ, List.getElem?_nil, Nat.reduceSub, Nat.reduceAdd, Nat.zero_add, Nat.sub_self, List.replicate_succ, List.replicate_zero, Bool.false_bne, Bool.true_bne, Bool.false_xor, Bool.true_xor, Bool.not_true, Bool.not_false, Bool.not_not, beq_self_eq_true, Bool.and_true, Bool.true_and, nl, nls, decide_true, decide_false, exists_eq_left, Bool.false_eq_true, Option.some_inj, Int.reduceToNat, Int.reducePow, Int.reduceMul, Int.reduceSub, Int.reduceAdd, Int.reduceNeg, Nat.reducePow, Nat.reduceLeDiff, Int.reduceLE, Int.reduceLT, Int.reduceAbs, Int.natAbs_neg, Nat.reduceLT, divW_eq, mulW_eq, Bool.or_true, Bool.true_or, cut_map, ← List.map_append, ← List.map_reverse, castN, eq_self, Int.reduceEq, deqC, deq_self, rep_map, nls_dP, wsAugIx, tx_cps, tx_len, tx_app, tx_one, tx_nil, tx_cut, tx_signs, tx_rep, lit_empty, tx_inj, wJoin, gJoin, wmCall, wmOpL, wmOpR, wmIxR, wmTup2, wsSetM, wsAppM, wForM, gSum, gAny, gAll, gLtD, gInT, gSorted, gAddT, wThaw, gMaxL, wIsE, wIsV, wCallE, wTry, DEnds.off, gInB, wDct0, wCntB, wIdxB, wTryF, wIdxS, gInX, wGetDI, wsSetKeyI, gInDI, dctOf, gIns, gTup, wDct1, gEqR, wsSetG, wgd0, wgdC, wLck, wDctL, wGetD, dctOf, wsSetKey, wItems, wSortI, wsCallMD, endsMD, endMD, startMD, wFld, wsSetFld, wsAddFld, isO_rfl, wMeth, wMethF, wMethN, wmMeth, wsExprM, wsRetM, wmOne, wmCons, wMake, wmMake, wsSetMk, gToIntS, endsO, endO, startO, List.getElem?_cons_succ, wsSetV]
  refine ⟨e, r, rfl, rfl, i, p.2, rfl, h1, ?_⟩
  have a2 : ∀ {α : Type} (f : Ob → α), atI (({ e with t := e.t + p.2, is := e.is ++ [i] } :: r).reverse.map f) (-1) = some (f { e with t := e.t + p.2, is := e.is ++ [i] }) := fun f => by rw [List.map_reverse, List.map_cons]; exact atI_rev1
  unfold wbIf BS.up
  simp only [vw, vwt, vdn, wFld, wtD, a2, obD, isO_rfl, wVar, wOwn, wC, wOp, onBl, wtOn, wChain, trD, wtVal, wtNot, wAnd, wOr, wAndV, wOrV, wNotV, wIf, wNil, wCons, wTup, wLst, wUn, wNew, gAdd, gInt, gInt0, gMul, gCatF, gRepF, wOpF, gEq, gCmp, gInS, gIsN, isN, gIsB, gIdx, woNone, woSome, gSl, wSl, gSlF, wSlF, wB, wBF, gLen, gInt1, gInt2, gToInt, gListF, tyName, gIsT, wIsT, wCall, Rt.d, Cn.d, onNew, wCallF, wCallN, wCallNF, nlR, wgName, wgNil, wgCons, wgTup, wSeq, wSeqT, wSigns, wRng1, wRng2, wRng3, wRev, wEnum, wZip, wLc, wtYes, wsNil, wsBrk, wsCnt, wsExpr, wsRet, wsRetF, wsRetOwn, wsRetN, wIfS, wsSet, wsSetF, wsAsg, wsPar, wsAug, gApp, gExt, gPop0, gRev, wMut, wsSetIx, wFor, wsRaise, wSeqS, wFrz, wsCallM, wsPopAdd, endsOf, endM, endsM, startM, startE, wipeE, smallI, CPow, Br_true, Br_false, Br_not, rngD_eq, dC, dP, dI, ex_atI_map, atI0, atI1, atI2, kit1, kit2, kit3, kit4, kit5, kit6, kit7, kit8, kit9, kit10, kit11, kit12, kit13, kit14, kit15, kit16, kit17, kit18, kit19, kit20, kit21, kit22, kit23, kit24, kit25, kit26, kit27, kit28, kit29, kit30, kit31, kit32, kit33, kit34, kit35, sizeLine_eq, true_and, and_true, exists_eq_left', Option.some.injEq, List.map_cons, List.map_nil, List.length_cons, List.length_nil, List.length_map, List.length_append, List.cons_append, List.nil_append, List.set_cons_zero, List.set_cons_succ, List.getElem?_cons_zero, List.getElem?_cons_succ, List.getElem?_nil, Nat.reduceSub, Nat.reduceAdd, Nat.zero_add, Nat.sub_self, List.replicate_succ, List.replicate_zero, Bool.false_bne, Bool.true_bne, Bool.false_xor, Bool.true_xor, Bool.not_true, Bool.not_false, Bool.not_not, beq_self_eq_true, Bool.and_true, Bool.true_and, nl, nls, decide_true, decide_false, exists_eq_left, Bool.false_eq_true, Option.some_inj, Int.reduceToNat, Int.reducePow, Int.reduceMul, Int.reduceSub, Int.reduceAdd, Int.reduceNeg, Nat.reducePow, Nat.reduceLeDiff, Int.reduceLE, Int.reduceLT, Int.reduceAbs, Int.natAbs_neg, Nat.reduceLT, divW_eq, mulW_eq, Bool.or_true, Bool.true_or, cut_map, ← List.map_append, ← List.map_reverse, castN, eq_self, Int.reduceEq, deqC, deq_self, rep_map, nls_dP, wsAugIx, tx_cps, tx_len, tx_app, tx_one, tx_nil, tx_cut, tx_signs, tx_rep, lit_empty, tx_inj, wJoin, gJoin, wmCall, wmOpL, wmOpR, wmIxR, wmTup2, wsSetM, wsAppM, wForM, gSum, gAny, gAll, gLtD, gInT, gSorted, gAddT, wThaw, gMaxL, wIsE, wIsV, wCallE, wTry, DEnds.off, gInB, wDct0, wCntB, wIdxB, wTryF, wIdxS, gInX, wGetDI, wsSetKeyI, gInDI, dctOf, gIns, gTup, wDct1, gEqR, wsSetG, wgd0, wgdC, wLck, wDctL, wGetD, dctOf, wsSetKey, wItems, wSortI, wsCallMD, endsMD, endMD, startMD, wFld, wsSetFld, wsAddFld, isO_rfl, wMeth, wMethF, wMethN, wmMeth, wsExprM, wsRetM, wmOne, wmCons, wMake, wmMake, wsSetMk, gToIntS, endsO, endO, startO, List.getElem?_cons_succ, wsSetV]
  refine Br.d (fun h0 => ?_) (fun h0 => ?_)
  · unfold wbPop
    refine ⟨_, _, rfl, h2, ?_⟩
    exact hJ r (dn ++ [(e.l, e.is ++ [i])]) (by rw [if_pos h0]; simp [stB])
  · unfold wbNil
    exact hJ ({ e with t := e.t + p.2, is := e.is ++ [i] } :: r) dn (by rw [if_neg h0]; rfl)
abbrev W_blocks_tgt : WG := wgTup 2 (wgCons (wgName 3) (wgCons (wgTup 2 (wgCons (wgName 4) (wgCons (wgName 5) wgNil))) wgNil))
theorem blocks_loop (c : List Pc) (hl : c.length ≤ 100000) (x : XS) {K : BS → Prop} (fin : ∀ b s3 s4 s5, b.ρ = envB c b.st b.dn s3 s4 s5 → stB b.st b.dn = bst c c.length → K b) :
    wBlkY (wEnum (wVar 0)) W_blocks_tgt W_blocks_body K x [.fz (.lst (c.map dP)), .own false (.lst []), .own false (.lst []), .un, .un, .un] := by
  refine ⟨fun i c h => ?_, rfl, rfl, ?_⟩
  · rcases i with _ | _ | _ | _ | _ | _ | i <;> simp at h
  simp only [wVar, wOwn, wC, wOp, onBl, wtOn, wChain, trD, wtVal, wtNot, wAnd, wOr, wAndV, wOrV, wNotV, wIf, wNil, wCons, wTup, wLst, wUn, wNew, gAdd, gInt, gInt0, gMul, gCatF, gRepF, wOpF, gEq, gCmp, gInS, gIsN, isN, gIsB, gIdx, woNone, woSome, gSl, wSl, gSlF, wSlF, wB, wBF, gLen, gInt1, gInt2, gToInt, gListF, tyName, gIsT, wIsT, wCall, Rt.d, Cn.d, onNew, wCallF, wCallN, wCallNF, nlR, wgName, wgNil, wgCons, wgTup, wSeq, wSeqT, wSigns, wRng1, wRng2, wRng3, wRev, wEnum, wZip, wLc, wtYes, wsNil, wsBrk, wsCnt, wsExpr, wsRet, wsRetF, wsRetOwn, wsRetN, wIfS, wsSet, wsSetF, wsAsg, wsPar, wsAug, gApp, gExt, gPop0, gRev, wMut, wsSetIx, wFor, wsRaise, wSeqS, wFrz, wsCallM, wsPopAdd, endsOf, endM, endsM, startM, startE, wipeE, smallI, CPow, Br_true, Br_false, Br_not, rngD_eq, dC, dP, dI, ex_atI_map, atI0, atI1, atI2, kit1, kit2, kit3, kit4, kit5, kit6, kit7, kit8, kit9, kit10, kit11, kit12, kit13, kit14, kit15, kit16, kit17, kit18, kit19, kit20, kit21, kit22, kit23, kit24, kit25, kit26, kit27, kit28, kit29, kit30, kit31, kit32, kit33, kit34, kit35, sizeLine_eq, true_and, and_true, exists_eq_left', Option.some.injEq, List.map_cons, List.map_nil, List.length_cons, List.length_nil, List.length_map, List.length_append, List.cons_append, List.nil_append, List.set_cons_zero, List.set_cons_succ, List.getElem?_cons_zero, List.getElem?_cons_succ, List.getElem?_nil, Nat.reduceSub, Nat.reduceAdd, Nat.zero_add, Nat.sub_self, List.replicate_succ, List.replicate_zero, Bool.false_bne, Bool.true_bne, Bool.false_xor, Bool.true_xor, Bool.not_true, Bool.not_false, Bool.not_not, beq_self_eq_true, Bool.and_true, Bool.true_and, nl, nls, decide_true, decide_false, exists_eq_left, Bool.false_eq_true, Option.some_inj, Int.reduceToNat, Int.reducePow, Int.reduceMul, Int.reduceSub, Int.reduceAdd, Int.reduceNeg, Nat.reducePow, Nat.reduceLeDiff, Int.reduceLE, Int.reduceLT, Int.reduceAbs, Int.natAbs_neg, Nat.reduceLT, divW_eq, mulW_eq, Bool.or_true, Bool.true_or, cut_map, ← List.map_append, ← List.map_reverse, castN, eq_self, Int.reduceEq, deqC, deq_self, rep_map, nls_dP, wsAugIx, tx_cps, tx_len, tx_app, tx_one, tx_nil, tx_cut, tx_signs, tx_rep, lit_empty, tx_inj, wJoin, gJoin, wmCall, wmOpL, wmOpR, wmIxR, wmTup2, wsSetM, wsAppM, wForM, gSum, gAny, gAll, gLtD, gInT, gSorted, gAddT, wThaw, gMaxL, wIsE, wIsV, wCallE, wTry, DEnds.off, gInB, wDct0, wCntB, wIdxB, wTryF, wIdxS, gInX, wGetDI, wsSetKeyI, gInDI, dctOf, gIns, gTup, wDct1, gEqR, wsSetG, wgd0, wgdC, wLck, wDctL, wGetD, dctOf, wsSetKey, wItems, wSortI, wsCallMD, endsMD, endMD, startMD, wFld, wsSetFld, wsAddFld, isO_rfl, wMeth, wMethF, wMethN, wmMeth, wsExprM, wsRetM, wmOne, wmCons, wMake, wmMake, wsSetMk, gToIntS, endsO, endO, startO, List.getElem?_cons_succ, wsSetV]
  refine ⟨fun i b => ∃ s3 s4 s5, b.ρ = envB c b.st b.dn s3 s4 s5 ∧ stB b.st b.dn = bst c i, ⟨_, _, _, rfl, rfl⟩, ?_, ?_⟩
  · rintro i d ⟨ρ, st, dn⟩ hd ⟨s3, s4, s5, he, hs⟩
    simp only at he hs
    subst he
    obtain ⟨p, hp, rfl⟩ : ∃ p, c[i]? = some p ∧ d = .tup [.int (i : Nat), dP p] := by
      unfold numbered at hd
      rw [List.getElem?_map] at hd
      obtain ⟨⟨a, y⟩, h1, rfl⟩ := Option.map_eq_some_iff.mp hd
      obtain ⟨h2, h3⟩ := List.getElem?_zip_eq_some.mp h1
      rw [List.getElem?_map] at h3
      obtain ⟨p, hp, rfl⟩ := Option.map_eq_some_iff.mp h3
      obtain ⟨_, rfl⟩ := List.getElem?_eq_some_iff.mp h2
      exact ⟨p, hp, by simp⟩
    have hnx : bst c (i + 1) = bstep (bst c i) i p := by
      show (match c[i]? with | some p => _ | none => _) = _
      rw [hp]
    have hln := bst_len c i
    have hi : i < c.length := (List.getElem?_eq_some_iff.mp hp).1
    rw [← hs] at hnx hln
    obtain ⟨l1, l2, l3⟩ := hln
    simp only [stB, List.length_map] at l1 l2
    simp only [wVar, wOwn, wC, wOp, onBl, wtOn, wChain, trD, wtVal, wtNot, wAnd, wOr, wAndV, wOrV, wNotV, wIf, wNil, wCons, wTup, wLst, wUn, wNew, gAdd, gInt, gInt0, gMul, gCatF, gRepF, wOpF, gEq, gCmp, gInS, gIsN, isN, gIsB, gIdx, woNone, woSome, gSl, wSl, gSlF, wSlF, wB, wBF, gLen, gInt1, gInt2, gToInt, gListF, tyName, gIsT, wIsT, wCall, Rt.d, Cn.d, onNew, wCallF, wCallN, wCallNF, nlR, wgName, wgNil, wgCons, wgTup, wSeq, wSeqT, wSigns, wRng1, wRng2, wRng3, wRev, wEnum, wZip, wLc, wtYes, wsNil, wsBrk, wsCnt, wsExpr, wsRet, wsRetF, wsRetOwn, wsRetN, wIfS, wsSet, wsSetF, wsAsg, wsPar, wsAug, gApp, gExt, gPop0, gRev, wMut, wsSetIx, wFor, wsRaise, wSeqS, wFrz, wsCallM, wsPopAdd, endsOf, endM, endsM, startM, startE, wipeE, smallI, CPow, Br_true, Br_false, Br_not, rngD_eq, dC, dP, dI, ex_atI_map, atI0, atI1, atI2, kit1, kit2, kit3, kit4, kit5, kit6, kit7, kit8, kit9, kit10, kit11, kit12, kit13, kit14, kit15, kit16, kit17, kit18, kit19, kit20, kit21, kit22, kit23, kit24, kit25, kit26, kit27, kit28, kit29, kit30, kit31, kit32, kit33, kit34, kit35, sizeLine_eq, true_and, and_true, exists_eq_left', Option.some.injEq, List.map_cons, List.map_nil, List.length_cons, List.length_nil, List.length_map, List.length_append, List.cons_append, List.nil_append, List.set_cons_zero, List.set_cons_succ, List.getElem?_cons_zero, List.getElem?_cons_succ, List.getElem?_nil, Nat.reduceSub, Nat.reduceAdd, Nat.zero_add, Nat.sub_self, List.replicate_succ, List.replicate_zero, Bool.false_bne, Bool.true_bne, Bool.false_xor, Bool.true_xor, Bool.not_true, Bool.not_false, Bool.not_not, beq_self_eq_true, Bool.and_true, Bool.true_and, nl, nls, decide_true, decide_false, exists_eq_left, Bool.false_eq_true, Option.some_inj, Int.reduceToNat, Int.reducePow, Int.reduceMul, Int.reduceSub, Int.reduceAdd, Int.reduceNeg, Nat.reducePow, Nat.reduceLeDiff, Int.reduceLE, Int.reduceLT, Int.reduceAbs, Int.natAbs_neg, Nat.reduceLT, divW_eq, mulW_eq, Bool.or_true, Bool.true_or, cut_map, ← List.map_append, ← List.map_reverse, castN, eq_self, Int.reduceEq, deqC, deq_self, rep_map, nls_dP, wsAugIx, tx_cps, tx_len, tx_app, tx_one, tx_nil, tx_cut, tx_signs, tx_rep, lit_empty, tx_inj, wJoin, gJoin, wmCall, wmOpL, wmOpR, wmIxR, wmTup2, wsSetM, wsAppM, wForM, gSum, gAny, gAll, gLtD, gInT, gSorted, gAddT, wThaw, gMaxL, wIsE, wIsV, wCallE, wTry, DEnds.off, gInB, wDct0, wCntB, wIdxB, wTryF, wIdxS, gInX, wGetDI, wsSetKeyI, gInDI, dctOf, gIns, gTup, wDct1, gEqR, wsSetG, wgd0, wgdC, wLck, wDctL, wGetD, dctOf, wsSetKey, wItems, wSortI, wsCallMD, endsMD, endMD, startMD, wFld, wsSetFld, wsAddFld, isO_rfl, wMeth, wMethF, wMethN, wmMeth, wsExprM, wsRetM, wmOne, wmCons, wMake, wmMake, wsSetMk, gToIntS, endsO, endO, startO, List.getElem?_cons_succ, wsSetV, envB]
    unfold W_blocks_body wbSeq wbIf
    simp only [vw, vwt, vdn, wVar, wOwn, wC, wOp, onBl, wtOn, wChain, trD, wtVal, wtNot, wAnd, wOr, wAndV, wOrV, wNotV, wIf, wNil, wCons, wTup, wLst, wUn, wNew, gAdd, gInt, gInt0, gMul, gCatF, gRepF, wOpF, gEq, gCmp, gInS, gIsN, isN, gIsB, gIdx, woNone, woSome, gSl, wSl, gSlF, wSlF, wB, wBF, gLen, gInt1, gInt2, gToInt, gListF, tyName, gIsT, wIsT, wCall, Rt.d, Cn.d, onNew, wCallF, wCallN, wCallNF, nlR, wgName, wgNil, wgCons, wgTup, wSeq, wSeqT, wSigns, wRng1, wRng2, wRng3, wRev, wEnum, wZip, wLc, wtYes, wsNil, wsBrk, wsCnt, wsExpr, wsRet, wsRetF, wsRetOwn, wsRetN, wIfS, wsSet, wsSetF, wsAsg, wsPar, wsAug, gApp, gExt, gPop0, gRev, wMut, wsSetIx, wFor, wsRaise, wSeqS, wFrz, wsCallM, wsPopAdd, endsOf, endM, endsM, startM, startE, wipeE, smallI, CPow, Br_true, Br_false, Br_not, rngD_eq, dC, dP, dI, ex_atI_map, atI0, atI1, atI2, kit1, kit2, kit3, kit4, kit5, kit6, kit7, kit8, kit9, kit10, kit11, kit12, kit13, kit14, kit15, kit16, kit17, kit18, kit19, kit20, kit21, kit22, kit23, kit24, kit25, kit26, kit27, kit28, kit29, kit30, kit31, kit32, kit33, kit34, kit35, sizeLine_eq, true_and, and_true, exists_eq_left', Option.some.injEq, List.map_cons, List.map_nil, List.length_cons, List.length_nil, List.length_map, List.length_append, List.cons_append, List.nil_append, List.set_cons_zero, List.set_cons_succ, List.getElem?_cons_zero, List.getElem?_cons_succ, List.getElem?_nil, Nat.reduceSub, Nat.reduceAdd, Nat.zero_add, Nat.sub_self, List.replicate_succ, List.replicate_zero, Bool.false_bne, Bool.true_bne, Bool.false_xor, Bool.true_xor, Bool.not_true, Bool.not_false, Bool.not_not, beq_self_eq_true, Bool.and_true, Bool.true_and, nl, nls, decide_true, decide_false, exists_eq_left, Bool.false_eq_true, Option.some_inj, Int.reduceToNat, Int.reducePow, Int.reduceMul, Int.reduceSub, Int.reduceAdd, Int.reduceNeg, Nat.reducePow, Nat.reduceLeDiff, Int.reduceLE, Int.reduceLT, Int.reduceAbs, Int.natAbs_neg, Nat.reduceLT, divW_eq, mulW_eq, Bool.or_true, Bool.true_or, cut_map, ← List.map_append, ← List.map_reverse, castN, eq_self, Int.reduceEq, deqC, deq_self, rep_map, nls_dP, wsAugIx, tx_cps, tx_len, tx_app, tx_one, tx_nil, tx_cut, tx_signs, tx_rep, lit_empty, tx_inj, wJoin, gJoin, wmCall, wmOpL, wmOpR, wmIxR, wmTup2, wsSetM, wsAppM, wForM, gSum, gAny, gAll, gLtD, gInT, gSorted, gAddT, wThaw, gMaxL, wIsE, wIsV, wCallE, wTry, DEnds.off, gInB, wDct0, wCntB, wIdxB, wTryF, wIdxS, gInX, wGetDI, wsSetKeyI, gInDI, dctOf, gIns, gTup, wDct1, gEqR, wsSetG, wgd0, wgdC, wLck, wDctL, wGetD, dctOf, wsSetKey, wItems, wSortI, wsCallMD, endsMD, endMD, startMD, wFld, wsSetFld, wsAddFld, isO_rfl, wMeth, wMethF, wMethN, wmMeth, wsExprM, wsRetM, wmOne, wmCons, wMake, wmMake, wsSetMk, gToIntS, endsO, endO, startO, List.getElem?_cons_succ, wsSetV]
    have hJ : ∀ (st' : List Ob) (dn' : List Dn) (s3 s4 s5 : Sl), stB st' dn' = bst c (i + 1) → (fun b : BS => ∃ s3 s4 s5, b.ρ = [Sl.fz (D.lst (c.map dP)), Sl.own false (wtD b.st), Sl.own false (dnD b.dn), s3, s4, s5] ∧ stB b.st b.dn = bst c (i + 1)) ⟨envB c st' dn' s3 s4 s5, st', dn'⟩ := fun st' dn' s3 s4 s5 h => ⟨s3, s4, s5, rfl, h⟩
    generalize (fun b : BS => ∃ s3 s4 s5, b.ρ = [Sl.fz (D.lst (c.map dP)), Sl.own false (wtD b.st), Sl.own false (dnD b.dn), s3, s4, s5] ∧ stB b.st b.dn = bst c (i + 1)) = J at hJ ⊢
    refine Br.d (fun h0 => ?_) (fun h0 => ?_)
    · unfold wbDone wbCnt
      simp only [wVar, wOwn, wC, wOp, onBl, wtOn, wChain, trD, wtVal, wtNot, wAnd, wOr, wAndV, wOrV, wNotV, wIf, wNil, wCons, wTup, wLst, wUn, wNew, gAdd, gInt, gInt0, gMul, gCatF, gRepF, wOpF, gEq, gCmp, gInS, gIsN, isN, gIsB, gIdx, woNone, woSome, gSl, wSl, gSlF, wSlF, wB, wBF, gLen, gInt1, gInt2, gToInt, gListF, tyName, gIsT, wIsT, wCall, Rt.d, Cn.d, onNew, wCallF, wCallN, wCallNF, nlR, wgName, wgNil, wgCons, wgTup, wSeq, wSeqT, wSigns, wRng1, wRng2, wRng3, wRev, wEnum, wZip, wLc, wtYes, wsNil, wsBrk, wsCnt, wsExpr, wsRet, wsRetF, wsRetOwn, wsRetN, wIfS, wsSet, wsSetF, wsAsg, wsPar, wsAug, gApp, gExt, gPop0, gRev, wMut, wsSetIx, wFor, wsRaise, wSeqS, wFrz, wsCallM, wsPopAdd, endsOf, endM, endsM, startM, startE, wipeE, smallI, CPow, Br_true, Br_false, Br_not, rngD_eq, dC, dP, dI, ex_atI_map, atI0, atI1, atI2, kit1, kit2, kit3, kit4, kit5, kit6, kit7, kit8, kit9, kit10, kit11, kit12, kit13, kit14, kit15, kit16, kit17, kit18, kit19, kit20, kit21, kit22, kit23, kit24, kit25, kit26, kit27, kit28, kit29, kit30, kit31, kit32, kit33, kit34, kit35, sizeLine_eq, true_and, and_true, exists_eq_left', Option.some.injEq, List.map_cons, List.map_nil, List.length_cons, List.length_nil, List.length_map, List.length_append, List.cons_append, List.nil_append, List.set_cons_zero, List.set_cons_succ, List.getElem?_cons_zero, List.getElem?_cons_succ, List.getElem?_nil, Nat.reduceSub, Nat.reduceAdd, Nat.zero_add, Nat.sub_self, List.replicate_succ, List.replicate_zero, Bool.false_bne, Bool.true_bne, Bool.false_xor, Bool.true_xor, Bool.not_true, Bool.not_false, Bool.not_not, beq_self_eq_true, Bool.and_true, Bool.true_and, nl, nls, decide_true, decide_false, exists_eq_left, Bool.false_eq_true, Option.some_inj, Int.reduceToNat, Int.reducePow, Int.reduceMul, Int.reduceSub, Int.reduceAdd, Int.reduceNeg, Nat.reducePow, Nat.reduceLeDiff, Int.reduceLE, Int.reduceLT, Int.reduceAbs, Int.natAbs_neg, Nat.reduceLT, divW_eq, mulW_eq, Bool.or_true, Bool.true_or, cut_map, ← List.map_append, ← List.map_reverse, castN, eq_self, Int.reduceEq, deqC, deq_self, rep_map, nls_dP, wsAugIx, tx_cps, tx_len, tx_app, tx_one, tx_nil, tx_cut, tx_signs, tx_rep, lit_empty, tx_inj, wJoin, gJoin, wmCall, wmOpL, wmOpR, wmIxR, wmTup2, wsSetM, wsAppM, wForM, gSum, gAny, gAll, gLtD, gInT, gSorted, gAddT, wThaw, gMaxL, wIsE, wIsV, wCallE, wTry, DEnds.off, gInB, wDct0, wCntB, wIdxB, wTryF, wIdxS, gInX, wGetDI, wsSetKeyI, gInDI, dctOf, gIns, gTup, wDct1, gEqR, wsSetG, wgd0, wgdC, wLck, wDctL, wGetD, dctOf, wsSetKey, wItems, wSortI, wsCallMD, endsMD, endMD, startMD, wFld, wsSetFld, wsAddFld, isO_rfl, wMeth, wMethF, wMethN, wmMeth, wsExprM, wsRetM, wmOne, wmCons, wMake, wmMake, wsSetMk, gToIntS, endsO, endO, startO, List.getElem?_cons_succ, wsSetV]
      refine ⟨[(i : Nat)], rfl, by omega, fun l => hJ st (dn ++ [(l, [((i : Nat) : Int)])]) _ _ _ ?_⟩
      rw [hnx]
      unfold bstep
      rw [if_pos h0]
      simp [stB]
    · unfold wbNil wbWait W_blocks_last
      simp only [wVar, wOwn, wC, wOp, onBl, wtOn, wChain, trD, wtVal, wtNot, wAnd, wOr, wAndV, wOrV, wNotV, wIf, wNil, wCons, wTup, wLst, wUn, wNew, gAdd, gInt, gInt0, gMul, gCatF, gRepF, wOpF, gEq, gCmp, gInS, gIsN, isN, gIsB, gIdx, woNone, woSome, gSl, wSl, gSlF, wSlF, wB, wBF, gLen, gInt1, gInt2, gToInt, gListF, tyName, gIsT, wIsT, wCall, Rt.d, Cn.d, onNew, wCallF, wCallN, wCallNF, nlR, wgName, wgNil, wgCons, wgTup, wSeq, wSeqT, wSigns, wRng1, wRng2, wRng3, wRev, wEnum, wZip, wLc, wtYes, wsNil, wsBrk, wsCnt, wsExpr, wsRet, wsRetF, wsRetOwn, wsRetN, wIfS, wsSet, wsSetF, wsAsg, wsPar, wsAug, gApp, gExt, gPop0, gRev, wMut, wsSetIx, wFor, wsRaise, wSeqS, wFrz, wsCallM, wsPopAdd, endsOf, endM, endsM, startM, startE, wipeE, smallI, CPow, Br_true, Br_false, Br_not, rngD_eq, dC, dP, dI, ex_atI_map, atI0, atI1, atI2, kit1, kit2, kit3, kit4, kit5, kit6, kit7, kit8, kit9, kit10, kit11, kit12, kit13, kit14, kit15, kit16, kit17, kit18, kit19, kit20, kit21, kit22, kit23, kit24, kit25, kit26, kit27, kit28, kit29, kit30, kit31, kit32, kit33, kit34, kit35, sizeLine_eq, true_and, and_true, exists_eq_left', Option.some.injEq, List.map_cons, List.map_nil, List.length_cons, List.length_nil, List.length_map, List.length_append, List.cons_append, List.nil_append, List.set_cons_zero, List.set_cons_succ, List.getElem?_cons_zero, List.getElem?_cons_succ, List.getElem?_nil, Nat.reduceSub, Nat.reduceAdd, Nat.zero_add, Nat.sub_self, List.replicate_succ, List.replicate_zero, Bool.false_bne, Bool.true_bne, Bool.false_xor, Bool.true_xor, Bool.not_true, Bool.not_false, Bool.not_not, beq_self_eq_true, Bool.and_true, Bool.true_and, nl, nls, decide_true, decide_false, exists_eq_left, Bool.false_eq_true, Option.some_inj, Int.reduceToNat, Int.reducePow, Int.reduceMul, Int.reduceSub, Int.reduceAdd, Int.reduceNeg, Nat.reducePow, Nat.reduceLeDiff, Int.reduceLE, Int.reduceLT, Int.reduceAbs, Int.natAbs_neg, Nat.reduceLT, divW_eq, mulW_eq, Bool.or_true, Bool.true_or, cut_map, ← List.map_append, ← List.map_reverse, castN, eq_self, Int.reduceEq, deqC, deq_self, rep_map, nls_dP, wsAugIx, tx_cps, tx_len, tx_app, tx_one, tx_nil, tx_cut, tx_signs, tx_rep, lit_empty, tx_inj, wJoin, gJoin, wmCall, wmOpL, wmOpR, wmIxR, wmTup2, wsSetM, wsAppM, wForM, gSum, gAny, gAll, gLtD, gInT, gSorted, gAddT, wThaw, gMaxL, wIsE, wIsV, wCallE, wTry, DEnds.off, gInB, wDct0, wCntB, wIdxB, wTryF, wIdxS, gInX, wGetDI, wsSetKeyI, gInDI, dctOf, gIns, gTup, wDct1, gEqR, wsSetG, wgd0, wgdC, wLck, wDctL, wGetD, dctOf, wsSetKey, wItems, wSortI, wsCallMD, endsMD, endMD, startMD, wFld, wsSetFld, wsAddFld, isO_rfl, wMeth, wMethF, wMethN, wmMeth, wsExprM, wsRetM, wmOne, wmCons, wMake, wmMake, wsSetMk, gToIntS, endsO, endO, startO, List.getElem?_cons_succ, wsSetV, wFld]
      cases st with
      | nil =>
        refine Br.t (by simp) ⟨p.1, rfl, by show (0 : Nat) < 16777216; omega, fun q dx l => ?_⟩
        refine blocks_rest (e := ⟨q, dx, l, p.1, 0, []⟩) (r := []) (p := p) (by show (0 : Nat) < 16777216; omega) (by omega) fun st' dn' h => hJ st' dn' _ _ _ ?_
        rw [hnx, h, if_neg (by show ¬ (0 : Int) + p.2 = 0; omega)]
        unfold bstep
        rw [if_neg h0]
        simp [stB]
      | cons e r =>
        have a1 : ∀ {α : Type} (f : Ob → α), atI ((e :: r).reverse.map f) (-1) = some (f e) := fun f => by rw [List.map_reverse, List.map_cons]; exact atI_rev1
        simp only [List.length_cons] at l1
        refine Br.f (by simp; omega) ?_
        simp only [a1, obD, isO_rfl, wVar, wOwn, wC, wOp, onBl, wtOn, wChain, trD, wtVal, wtNot, wAnd, wOr, wAndV, wOrV, wNotV, wIf, wNil, wCons, wTup, wLst, wUn, wNew, gAdd, gInt, gInt0, gMul, gCatF, gRepF, wOpF, gEq, gCmp, gInS, gIsN, isN, gIsB, gIdx, woNone, woSome, gSl, wSl, gSlF, wSlF, wB, wBF, gLen, gInt1, gInt2, gToInt, gListF, tyName, gIsT, wIsT, wCall, Rt.d, Cn.d, onNew, wCallF, wCallN, wCallNF, nlR, wgName, wgNil, wgCons, wgTup, wSeq, wSeqT, wSigns, wRng1, wRng2, wRng3, wRev, wEnum, wZip, wLc, wtYes, wsNil, wsBrk, wsCnt, wsExpr, wsRet, wsRetF, wsRetOwn, wsRetN, wIfS, wsSet, wsSetF, wsAsg, wsPar, wsAug, gApp, gExt, gPop0, gRev, wMut, wsSetIx, wFor, wsRaise, wSeqS, wFrz, wsCallM, wsPopAdd, endsOf, endM, endsM, startM, startE, wipeE, smallI, CPow, Br_true, Br_false, Br_not, rngD_eq, dC, dP, dI, ex_atI_map, atI0, atI1, atI2, kit1, kit2, kit3, kit4, kit5, kit6, kit7, kit8, kit9, kit10, kit11, kit12, kit13, kit14, kit15, kit16, kit17, kit18, kit19, kit20, kit21, kit22, kit23, kit24, kit25, kit26, kit27, kit28, kit29, kit30, kit31, kit32, kit33, kit34, kit35, sizeLine_eq, true_and, and_true, exists_eq_left', Option.some.injEq, List.map_cons, List.map_nil, List.length_cons, List.length_nil, List.length_map, List.length_append, List.cons_append, List.nil_append, List.set_cons_zero, List.set_cons_succ, List.getElem?_cons_zero, List.getElem?_cons_succ, List.getElem?_nil, Nat.reduceSub, Nat.reduceAdd, Nat.zero_add, Nat.sub_self, List.replicate_succ, List.replicate_zero, Bool.false_bne, Bool.true_bne, Bool.false_xor, Bool.true_xor, Bool.not_true, Bool.not_false, Bool.not_not, beq_self_eq_true, Bool.and_true, Bool.true_and, nl, nls, decide_true, decide_false, exists_eq_left, Bool.false_eq_true, Option.some_inj, Int.reduceToNat, Int.reducePow, Int.reduceMul, Int.reduceSub, Int.reduceAdd, Int.reduceNeg, Nat.reducePow, Nat.reduceLeDiff, Int.reduceLE, Int.reduceLT, Int.reduceAbs, Int.natAbs_neg, Nat.reduceLT, divW_eq, mulW_eq, Bool.or_true, Bool.true_or, cut_map, ← List.map_append, ← List.map_reverse, castN, eq_self, Int.reduceEq, deqC, deq_self, rep_map, nls_dP, wsAugIx, tx_cps, tx_len, tx_app, tx_one, tx_nil, tx_cut, tx_signs, tx_rep, lit_empty, tx_inj, wJoin, gJoin, wmCall, wmOpL, wmOpR, wmIxR, wmTup2, wsSetM, wsAppM, wForM, gSum, gAny, gAll, gLtD, gInT, gSorted, gAddT, wThaw, gMaxL, wIsE, wIsV, wCallE, wTry, DEnds.off, gInB, wDct0, wCntB, wIdxB, wTryF, wIdxS, gInX, wGetDI, wsSetKeyI, gInDI, dctOf, gIns, gTup, wDct1, gEqR, wsSetG, wgd0, wgdC, wLck, wDctL, wGetD, dctOf, wsSetKey, wItems, wSortI, wsCallMD, endsMD, endMD, startMD, wFld, wsSetFld, wsAddFld, isO_rfl, wMeth, wMethF, wMethN, wmMeth, wsExprM, wsRetM, wmOne, wmCons, wMake, wmMake, wsSetMk, gToIntS, endsO, endO, startO, List.getElem?_cons_succ, wsSetV]
        refine Br.d (fun h1 => ?_) (fun h1 => ?_)
        · have h1 : e.n = p.1 := by simpa using h1
          have l4 : e.is.length ≤ i := l3 (e.n, e.t, e.is) (by simp [stB])
          refine blocks_rest (e := e) (r := r) (p := p) (by omega) (by omega) fun st' dn' h => hJ st' dn' _ _ _ ?_
          rw [hnx, h]
          unfold bstep
          rw [if_neg h0]
          show _ = if e.n = p.1 then _ else _
          rw [if_pos h1]
          rfl
        · have h1 : e.n ≠ p.1 := by simpa using h1
          refine ⟨p.1, rfl, by show r.length + 1 < 16777216; omega, fun q dx l => ?_⟩
          refine blocks_rest (e := ⟨q, dx, l, p.1, 0, []⟩) (r := e :: r) (p := p) (by show (0 : Nat) < 16777216; omega) (by omega) fun st' dn' h => hJ st' dn' _ _ _ ?_
          rw [hnx, h, if_neg (by show ¬ (0 : Int) + p.2 = 0; omega)]
          unfold bstep
          rw [if_neg h0]
          show _ = if e.n = p.1 then _ else _
          rw [if_neg h1]
          simp [stB]
  · rintro b ⟨s3, s4, s5, he, hs⟩
    have hln : (numbered (c.map dP)).length = c.length := by unfold numbered; simp
    rw [hln] at hs
    exact fin b s3 s4 s5 he hs
theorem blk_st {c : List Pc} {st : List Ob} {dn : List Dn} (hs : stB st dn = bst c c.length) : (st = [] ↔ nf c = []) ∧ blk c = dn.map (·.2) := by
  have hn := bst_stk c c.length
  rw [List.take_length] at hn
  have hnf : (c.foldl stk []).reverse = nf c := short_nf c
  rw [← hn, ← hs] at hnf
  refine ⟨?_, ?_⟩
  · rw [← hnf]
    simp [stkB, stB]
  · unfold blk
    rw [← hs]
    rfl
theorem pure_blocks_of (ds : List D) (x : XS) (R : Rt → Prop) (h : SP_blocks_of ds x R) : W_blocks_of (endsOf R x) (startE 6 ds) := by
  obtain ⟨c, rfl, hl, q1, q2⟩ := h
  simp only [W_blocks_of, wVar, wOwn, wC, wOp, onBl, wtOn, wChain, trD, wtVal, wtNot, wAnd, wOr, wAndV, wOrV, wNotV, wIf, wNil, wCons, wTup, wLst, wUn, wNew, gAdd, gInt, gInt0, gMul, gCatF, gRepF, wOpF, gEq, gCmp, gInS, gIsN, isN, gIsB, gIdx, woNone, woSome, gSl, wSl, gSlF, wSlF, wB, wBF, gLen, gInt1, gInt2, gToInt, gListF, tyName, gIsT, wIsT, wCall, Rt.d, Cn.d, onNew, wCallF, wCallN, wCallNF, nlR, wgName, wgNil, wgCons, wgTup, wSeq, wSeqT, wSigns, wRng1, wRng2, wRng3, wRev, wEnum, wZip, wLc, wtYes, wsNil, wsBrk, wsCnt, wsExpr, wsRet, wsRetF, wsRetOwn, wsRetN, wIfS, wsSet, wsSetF, wsAsg, wsPar, wsAug, gApp, gExt, gPop0, gRev, wMut, wsSetIx, wFor, wsRaise, wSeqS, wFrz, wsCallM, wsPopAdd, endsOf, endM, endsM, startM, startE, wipeE, smallI, CPow, Br_true, Br_false, Br_not, rngD_eq, dC, dP, dI, ex_atI_map, atI0, atI1, atI2, kit1, kit2, kit3, kit4, kit5, kit6, kit7, kit8, kit9, kit10, kit11, kit12, kit13, kit14, kit15, kit16, kit17, kit18, kit19, kit20, kit21, kit22, kit23, kit24, kit25, kit26, kit27, kit28, kit29, kit30, kit31, kit32, kit33, kit34, kit35, sizeLine_eq, true_and, and_true, exists_eq_left', Option.some.injEq, List.map_cons, List.map_nil, List.length_cons, List.length_nil, List.length_map, List.length_append, List.cons_append, List.nil_append, List.set_cons_zero, List.set_cons_succ, List.getElem?_cons_zero, List.getElem?_cons_succ, List.getElem?_nil, Nat.reduceSub, Nat.reduceAdd, Nat.zero_add, Nat.sub_self, List.replicate_succ, List.replicate_zero, Bool.false_bne, Bool.true_bne, Bool.false_xor, Bool.true_xor, Bool.not_true, Bool.not_false, Bool.not_not, beq_self_eq_true, Bool.and_true, Bool.true_and, nl, nls, decide_true, decide_false, exists_eq_left, Bool.false_eq_true, Option.some_inj, Int.reduceToNat, Int.reducePow, Int.reduceMul, Int.reduceSub, Int.reduceAdd, Int.reduceNeg, Nat.reducePow, Nat.reduceLeDiff, Int.reduceLE, Int.reduceLT, Int.reduceAbs, Int.natAbs_neg, Nat.reduceLT, divW_eq, mulW_eq, Bool.or_true, Bool.true_or, cut_map, ← List.map_append, ← List.map_reverse, castN, eq_self, Int.reduceEq, deqC, deq_self, rep_map, nls_dP, wsAugIx, tx_cps, tx_len, tx_app, tx_one, tx_nil, tx_cut, tx_signs, tx_rep, lit_empty, tx_inj, wJoin, gJoin, wmCall, wmOpL, wmOpR, wmIxR, wmTup2, wsSetM, wsAppM, wForM, gSum, gAny, gAll, gLtD, gInT, gSorted, gAddT, wThaw, gMaxL, wIsE, wIsV, wCallE, wTry, DEnds.off, gInB, wDct0, wCntB, wIdxB, wTryF, wIdxS, gInX, wGetDI, wsSetKeyI, gInDI, dctOf, gIns, gTup, wDct1, gEqR, wsSetG, wgd0, wgdC, wLck, wDctL, wGetD, dctOf, wsSetKey, wItems, wSortI, wsCallMD, endsMD, endMD, startMD, wFld, wsSetFld, wsAddFld, isO_rfl, wMeth, wMethF, wMethN, wmMeth, wsExprM, wsRetM, wmOne, wmCons, wMake, wmMake, wsSetMk, gToIntS, endsO, endO, startO, List.getElem?_cons_succ, wsSetV]
  refine blocks_loop c hl x (K := fun b => wSeqS (wIfS (wtOn (wOp (gCmp fun i j => decide (j < i)) (wB gLen (wCons (wOwn 1) wNil)) (wC (.int 0)))) (wsRet (wC .non)) wsNil) (wsRetF (wBF gSorted (wCons (wOwn 2) wNil))) ⟨fun _ => R (.val .non), fun r _ => R r, fun _ => False, fun _ => False, x⟩ (vw b)) ?_
  rintro ⟨ρ, st, dn⟩ s3 s4 s5 he hs
  simp only at he hs
  subst he
  obtain ⟨hst, hd⟩ := blk_st hs
  simp only [envB, vw, vwt, vdn, wVar, wOwn, wC, wOp, onBl, wtOn, wChain, trD, wtVal, wtNot, wAnd, wOr, wAndV, wOrV, wNotV, wIf, wNil, wCons, wTup, wLst, wUn, wNew, gAdd, gInt, gInt0, gMul, gCatF, gRepF, wOpF, gEq, gCmp, gInS, gIsN, isN, gIsB, gIdx, woNone, woSome, gSl, wSl, gSlF, wSlF, wB, wBF, gLen, gInt1, gInt2, gToInt, gListF, tyName, gIsT, wIsT, wCall, Rt.d, Cn.d, onNew, wCallF, wCallN, wCallNF, nlR, wgName, wgNil, wgCons, wgTup, wSeq, wSeqT, wSigns, wRng1, wRng2, wRng3, wRev, wEnum, wZip, wLc, wtYes, wsNil, wsBrk, wsCnt, wsExpr, wsRet, wsRetF, wsRetOwn, wsRetN, wIfS, wsSet, wsSetF, wsAsg, wsPar, wsAug, gApp, gExt, gPop0, gRev, wMut, wsSetIx, wFor, wsRaise, wSeqS, wFrz, wsCallM, wsPopAdd, endsOf, endM, endsM, startM, startE, wipeE, smallI, CPow, Br_true, Br_false, Br_not, rngD_eq, dC, dP, dI, ex_atI_map, atI0, atI1, atI2, kit1, kit2, kit3, kit4, kit5, kit6, kit7, kit8, kit9, kit10, kit11, kit12, kit13, kit14, kit15, kit16, kit17, kit18, kit19, kit20, kit21, kit22, kit23, kit24, kit25, kit26, kit27, kit28, kit29, kit30, kit31, kit32, kit33, kit34, kit35, sizeLine_eq, true_and, and_true, exists_eq_left', Option.some.injEq, List.map_cons, List.map_nil, List.length_cons, List.length_nil, List.length_map, List.length_append, List.cons_append, List.nil_append, List.set_cons_zero, List.set_cons_succ, List.getElem?_cons_zero, List.getElem?_cons_succ, List.getElem?_nil, Nat.reduceSub, Nat.reduceAdd, Nat.zero_add, Nat.sub_self, List.replicate_succ, List.replicate_zero, Bool.false_bne, Bool.true_bne, Bool.false_xor, Bool.true_xor, Bool.not_true, Bool.not_false, Bool.not_not, beq_self_eq_true, Bool.and_true, Bool.true_and, nl, nls, decide_true, decide_false, exists_eq_left, Bool.false_eq_true, Option.some_inj, Int.reduceToNat, Int.reducePow, Int.reduceMul, Int.reduceSub, Int.reduceAdd, Int.reduceNeg, Nat.reducePow, Nat.reduceLeDiff, Int.reduceLE, Int.reduceLT, Int.reduceAbs, Int.natAbs_neg, Nat.reduceLT, divW_eq, mulW_eq, Bool.or_true, Bool.true_or, cut_map, ← List.map_append, ← List.map_reverse, castN, eq_self, Int.reduceEq, deqC, deq_self, rep_map, nls_dP, wsAugIx, tx_cps, tx_len, tx_app, tx_one, tx_nil, tx_cut, tx_signs, tx_rep, lit_empty, tx_inj, wJoin, gJoin, wmCall, wmOpL, wmOpR, wmIxR, wmTup2, wsSetM, wsAppM, wForM, gSum, gAny, gAll, gLtD, gInT, gSorted, gAddT, wThaw, gMaxL, wIsE, wIsV, wCallE, wTry, DEnds.off, gInB, wDct0, wCntB, wIdxB, wTryF, wIdxS, gInX, wGetDI, wsSetKeyI, gInDI, dctOf, gIns, gTup, wDct1, gEqR, wsSetG, wgd0, wgdC, wLck, wDctL, wGetD, dctOf, wsSetKey, wItems, wSortI, wsCallMD, endsMD, endMD, startMD, wFld, wsSetFld, wsAddFld, isO_rfl, wMeth, wMethF, wMethN, wmMeth, wsExprM, wsRetM, wmOne, wmCons, wMake, wmMake, wsSetMk, gToIntS, endsO, endO, startO, List.getElem?_cons_succ, wsSetV]
  refine Br.d (fun h => q1 fun z => ?_) (fun h => ?_)
  · rw [hst.mpr z] at h
    simp at h
  · have hz : st = [] := by
      cases st with
      | nil => rfl
      | cons e r => simp at h
    have e : dn.map (fun e => D.lst (e.2.map .int)) = (blk c).map fun is => D.lst (is.map .int) := by rw [hd, List.map_map]; rfl
    rw [e]
    exact ⟨srt_ints _, q2 (hst.mp hz)⟩
def SPN_blocks_of : SpecN := fun ds R => ∃ c : List Pc, ds = [dC c] ∧ c.length ≤ 100000 ∧ nf c = [] ∧ R (sorL (blk c))
theorem lenN_blocks_of (ds : List D) (R : List (List Int) → Prop) (h : SPN_blocks_of ds R) : ds.length = ["cord"].length := by
  obtain ⟨c, rfl, _⟩ := h; rfl
def WN_blocks_of (R : List (List Int) → Prop) : Ev → Prop := wsSetF 1 (wLst wNil) (endsN (wsSetF 2 (wLst wNil) (endsN (wBlkY (wEnum (wVar 0)) W_blocks_tgt W_blocks_body
  (fun b => wbNo (wtOn (wOp (gCmp fun i j => decide (j < i)) (wB gLen (wCons (wOwn 1) wNil)) (wC (.int 0)))) (fun b => b.st = [] ∧ Srt1 (b.dn.map fun e => D.lst (e.2.map .int)) ∧ R (sorL (b.dn.map (·.2)))) (fun _ => False) b) XN))))
theorem pureN_blocks_of (ds : List D) (R : List (List Int) → Prop) (h : SPN_blocks_of ds R) : WN_blocks_of R (startE 6 ds) := by
  obtain ⟨c, rfl, hl, h0, q⟩ := h
  simp only [WN_blocks_of, endsN, wVar, wOwn, wC, wOp, onBl, wtOn, wChain, trD, wtVal, wtNot, wAnd, wOr, wAndV, wOrV, wNotV, wIf, wNil, wCons, wTup, wLst, wUn, wNew, gAdd, gInt, gInt0, gMul, gCatF, gRepF, wOpF, gEq, gCmp, gInS, gIsN, isN, gIsB, gIdx, woNone, woSome, gSl, wSl, gSlF, wSlF, wB, wBF, gLen, gInt1, gInt2, gToInt, gListF, tyName, gIsT, wIsT, wCall, Rt.d, Cn.d, onNew, wCallF, wCallN, wCallNF, nlR, wgName, wgNil, wgCons, wgTup, wSeq, wSeqT, wSigns, wRng1, wRng2, wRng3, wRev, wEnum, wZip, wLc, wtYes, wsNil, wsBrk, wsCnt, wsExpr, wsRet, wsRetF, wsRetOwn, wsRetN, wIfS, wsSet, wsSetF, wsAsg, wsPar, wsAug, gApp, gExt, gPop0, gRev, wMut, wsSetIx, wFor, wsRaise, wSeqS, wFrz, wsCallM, wsPopAdd, endsOf, endM, endsM, startM, startE, wipeE, smallI, CPow, Br_true, Br_false, Br_not, rngD_eq, dC, dP, dI, ex_atI_map, atI0, atI1, atI2, kit1, kit2, kit3, kit4, kit5, kit6, kit7, kit8, kit9, kit10, kit11, kit12, kit13, kit14, kit15, kit16, kit17, kit18, kit19, kit20, kit21, kit22, kit23, kit24, kit25, kit26, kit27, kit28, kit29, kit30, kit31, kit32, kit33, kit34, kit35, sizeLine_eq, true_and, and_true, exists_eq_left', Option.some.injEq, List.map_cons, List.map_nil, List.length_cons, List.length_nil, List.length_map, List.length_append, List.cons_append, List.nil_append, List.set_cons_zero, List.set_cons_succ, List.getElem?_cons_zero, List.getElem?_cons_succ, List.getElem?_nil, Nat.reduceSub, Nat.reduceAdd, Nat.zero_add, Nat.sub_self, List.replicate_succ, List.replicate_zero, Bool.false_bne, Bool.true_bne, Bool.false_xor, Bool.true_xor, Bool.not_true, Bool.not_false, Bool.not_not, beq_self_eq_true, Bool.and_true, Bool.true_and, nl, nls, decide_true, decide_false, exists_eq_left, Bool.false_eq_true, Option.some_inj, Int.reduceToNat, Int.reducePow, Int.reduceMul, Int.reduceSub, Int.reduceAdd, Int.reduceNeg, Nat.reducePow, Nat.reduceLeDiff, Int.reduceLE, Int.reduceLT, Int.reduceAbs, Int.natAbs_neg, Nat.reduceLT, divW_eq, mulW_eq, Bool.or_true, Bool.true_or, cut_map, ← List.map_append, ← List.map_reverse, castN, eq_self, Int.reduceEq, deqC, deq_self, rep_map, nls_dP, wsAugIx, tx_cps, tx_len, tx_app, tx_one, tx_nil, tx_cut, tx_signs, tx_rep, lit_empty, tx_inj, wJoin, gJoin, wmCall, wmOpL, wmOpR, wmIxR, wmTup2, wsSetM, wsAppM, wForM, gSum, gAny, gAll, gLtD, gInT, gSorted, gAddT, wThaw, gMaxL, wIsE, wIsV, wCallE, wTry, DEnds.off, gInB, wDct0, wCntB, wIdxB, wTryF, wIdxS, gInX, wGetDI, wsSetKeyI, gInDI, dctOf, gIns, gTup, wDct1, gEqR, wsSetG, wgd0, wgdC, wLck, wDctL, wGetD, dctOf, wsSetKey, wItems, wSortI, wsCallMD, endsMD, endMD, startMD, wFld, wsSetFld, wsAddFld, isO_rfl, wMeth, wMethF, wMethN, wmMeth, wsExprM, wsRetM, wmOne, wmCons, wMake, wmMake, wsSetMk, gToIntS, endsO, endO, startO, List.getElem?_cons_succ, wsSetV]
  refine blocks_loop c hl XN ?_
  rintro ⟨ρ, st, dn⟩ s3 s4 s5 he hs
  simp only at he hs
  subst he
  obtain ⟨hst, hd⟩ := blk_st hs
  have hz := hst.mpr h0
  subst hz
  unfold wbNo
  simp only [envB, vw, vwt, vdn, wVar, wOwn, wC, wOp, onBl, wtOn, wChain, trD, wtVal, wtNot, wAnd, wOr, wAndV, wOrV, wNotV, wIf, wNil, wCons, wTup, wLst, wUn, wNew, gAdd, gInt, gInt0, gMul, gCatF, gRepF, wOpF, gEq, gCmp, gInS, gIsN, isN, gIsB, gIdx, woNone, woSome, gSl, wSl, gSlF, wSlF, wB, wBF, gLen, gInt1, gInt2, gToInt, gListF, tyName, gIsT, wIsT, wCall, Rt.d, Cn.d, onNew, wCallF, wCallN, wCallNF, nlR, wgName, wgNil, wgCons, wgTup, wSeq, wSeqT, wSigns, wRng1, wRng2, wRng3, wRev, wEnum, wZip, wLc, wtYes, wsNil, wsBrk, wsCnt, wsExpr, wsRet, wsRetF, wsRetOwn, wsRetN, wIfS, wsSet, wsSetF, wsAsg, wsPar, wsAug, gApp, gExt, gPop0, gRev, wMut, wsSetIx, wFor, wsRaise, wSeqS, wFrz, wsCallM, wsPopAdd, endsOf, endM, endsM, startM, startE, wipeE, smallI, CPow, Br_true, Br_false, Br_not, rngD_eq, dC, dP, dI, ex_atI_map, atI0, atI1, atI2, kit1, kit2, kit3, kit4, kit5, kit6, kit7, kit8, kit9, kit10, kit11, kit12, kit13, kit14, kit15, kit16, kit17, kit18, kit19, kit20, kit21, kit22, kit23, kit24, kit25, kit26, kit27, kit28, kit29, kit30, kit31, kit32, kit33, kit34, kit35, sizeLine_eq, true_and, and_true, exists_eq_left', Option.some.injEq, List.map_cons, List.map_nil, List.length_cons, List.length_nil, List.length_map, List.length_append, List.cons_append, List.nil_append, List.set_cons_zero, List.set_cons_succ, List.getElem?_cons_zero, List.getElem?_cons_succ, List.getElem?_nil, Nat.reduceSub, Nat.reduceAdd, Nat.zero_add, Nat.sub_self, List.replicate_succ, List.replicate_zero, Bool.false_bne, Bool.true_bne, Bool.false_xor, Bool.true_xor, Bool.not_true, Bool.not_false, Bool.not_not, beq_self_eq_true, Bool.and_true, Bool.true_and, nl, nls, decide_true, decide_false, exists_eq_left, Bool.false_eq_true, Option.some_inj, Int.reduceToNat, Int.reducePow, Int.reduceMul, Int.reduceSub, Int.reduceAdd, Int.reduceNeg, Nat.reducePow, Nat.reduceLeDiff, Int.reduceLE, Int.reduceLT, Int.reduceAbs, Int.natAbs_neg, Nat.reduceLT, divW_eq, mulW_eq, Bool.or_true, Bool.true_or, cut_map, ← List.map_append, ← List.map_reverse, castN, eq_self, Int.reduceEq, deqC, deq_self, rep_map, nls_dP, wsAugIx, tx_cps, tx_len, tx_app, tx_one, tx_nil, tx_cut, tx_signs, tx_rep, lit_empty, tx_inj, wJoin, gJoin, wmCall, wmOpL, wmOpR, wmIxR, wmTup2, wsSetM, wsAppM, wForM, gSum, gAny, gAll, gLtD, gInT, gSorted, gAddT, wThaw, gMaxL, wIsE, wIsV, wCallE, wTry, DEnds.off, gInB, wDct0, wCntB, wIdxB, wTryF, wIdxS, gInX, wGetDI, wsSetKeyI, gInDI, dctOf, gIns, gTup, wDct1, gEqR, wsSetG, wgd0, wgdC, wLck, wDctL, wGetD, dctOf, wsSetKey, wItems, wSortI, wsCallMD, endsMD, endMD, startMD, wFld, wsSetFld, wsAddFld, isO_rfl, wMeth, wMethF, wMethN, wmMeth, wsExprM, wsRetM, wmOne, wmCons, wMake, wmMake, wsSetMk, gToIntS, endsO, endO, startO, List.getElem?_cons_succ, wsSetV]
  have e : dn.map (fun e => D.lst (e.2.map .int)) = (blk c).map fun is => D.lst (is.map .int) := by rw [hd, List.map_map]; rfl
  rw [e, ← hd]
  refine ⟨by simp, srt_ints _, q⟩
--@ law_come_to_nought
def nlc (c : List Pc) (k : Int) : Str := match c[k.toNat]? with
  | some p => p.1
  | none => tx []
def tnc (c : List Pc) (k : Int) : Int := match c[k.toNat]? with
  | some p => p.2
  | none => 0
theorem at_pc {c : List Pc} {k : Int} (h0 : 0 ≤ k) (h1 : k < c.length) : atI c k = some (nlc c k, tnc c k) := by
  obtain ⟨j, rfl⟩ := Int.eq_ofNat_of_zero_le h0
  have hj : j < c.length := by omega
  rw [atI_at (j := j) rfl hj]
  unfold nlc tnc
  simp only [Int.toNat_natCast, List.getElem?_eq_getElem hj]
def SP_law_come_to_nought : Spec := fun ds _ R => ∃ (c : List Pc) (b : List Int) (n : Str), ds = [dC c, dI b] ∧ b ≠ [] ∧ (∀ k ∈ b, 0 ≤ k ∧ k < c.length ∧ nlc c k = n) ∧ (b.map (tnc c)).sum = 0 ∧ R (.val (.bl true))
theorem len_law_come_to_nought (ds : List D) (x : XS) (R : Rt → Prop) (h : SP_law_come_to_nought ds x R) : ds.length = ["_law_cord_here", "_law_block"].length := by
  obtain ⟨c, b, n, rfl, _⟩ := h; rfl
def W_law_come_to_nought : WS :=
  (wSeqS (wsSet 2 (wC (.int 0)))
  (wSeqS (wFor (wSeq (wVar 1)) (wgName 3)
  (wSeqS (wIfS (wtOn (wOp (gEq true) (wOp gIdx (wOp gIdx (wVar 0) (wVar 3)) (wC (.int 0))) (wOp gIdx (wOp gIdx (wVar 0) (wOp gIdx (wVar 1) (wC (.int 0)))) (wC (.int 0)))))
  (wsRet (wC (.bl false)))
  wsNil)
  (wsSet 2 (wOp gAdd (wVar 2) (wOp gIdx (wOp gIdx (wVar 0) (wVar 3)) (wC (.int 1)))))))
  (wsRet (wOp (gEq false) (wVar 2) (wC (.int 0))))))
theorem pure_law_come_to_nought (ds : List D) (x : XS) (R : Rt → Prop) (h : SP_law_come_to_nought ds x R) : W_law_come_to_nought (endsOf R x) (startE 4 ds) := by
  obtain ⟨c, b, n, rfl, hb, hk, hs, q⟩ := h
  have hlb := List.length_pos_iff.mpr hb
  obtain ⟨z, hz, hm⟩ := atI_in (xs := b) (i := 0) (by omega) (by omega)
  have kz := hk z hm
  simp only [W_law_come_to_nought, wVar, wOwn, wC, wOp, onBl, wtOn, wChain, trD, wtVal, wtNot, wAnd, wOr, wAndV, wOrV, wNotV, wIf, wNil, wCons, wTup, wLst, wUn, wNew, gAdd, gInt, gInt0, gMul, gCatF, gRepF, wOpF, gEq, gCmp, gInS, gIsN, isN, gIsB, gIdx, woNone, woSome, gSl, wSl, gSlF, wSlF, wB, wBF, gLen, gInt1, gInt2, gToInt, gListF, tyName, gIsT, wIsT, wCall, Rt.d, Cn.d, onNew, wCallF, wCallN, wCallNF, nlR, wgName, wgNil, wgCons, wgTup, wSeq, wSeqT, wSigns, wRng1, wRng2, wRng3, wRev, wEnum, wZip, wLc, wtYes, wsNil, wsBrk, wsCnt, wsExpr, wsRet, wsRetF, wsRetOwn, wsRetN, wIfS, wsSet, wsSetF, wsAsg, wsPar, wsAug, gApp, gExt, gPop0, gRev, wMut, wsSetIx, wFor, wsRaise, wSeqS, wFrz, wsCallM, wsPopAdd, endsOf, endM, endsM, startM, startE, wipeE, smallI, CPow, Br_true, Br_false, Br_not, rngD_eq, dC, dP, dI, ex_atI_map, atI0, atI1, atI2, kit1, kit2, kit3, kit4, kit5, kit6, kit7, kit8, kit9, kit10, kit11, kit12, kit13, kit14, kit15, kit16, kit17, kit18, kit19, kit20, kit21, kit22, kit23, kit24, kit25, kit26, kit27, kit28, kit29, kit30, kit31, kit32, kit33, kit34, kit35, sizeLine_eq, true_and, and_true, exists_eq_left', Option.some.injEq, List.map_cons, List.map_nil, List.length_cons, List.length_nil, List.length_map, List.length_append, List.cons_append, List.nil_append, List.set_cons_zero, List.set_cons_succ, List.getElem?_cons_zero, List.getElem?_cons_succ, List.getElem?_nil, Nat.reduceSub, Nat.reduceAdd, Nat.zero_add, Nat.sub_self, List.replicate_succ, List.replicate_zero, Bool.false_bne, Bool.true_bne, Bool.false_xor, Bool.true_xor, Bool.not_true, Bool.not_false, Bool.not_not, beq_self_eq_true, Bool.and_true, Bool.true_and, nl, nls, decide_true, decide_false, exists_eq_left, Bool.false_eq_true, Option.some_inj, Int.reduceToNat, Int.reducePow, Int.reduceMul, Int.reduceSub, Int.reduceAdd, Int.reduceNeg, Nat.reducePow, Nat.reduceLeDiff, Int.reduceLE, Int.reduceLT, Int.reduceAbs, Int.natAbs_neg, Nat.reduceLT, divW_eq, mulW_eq, Bool.or_true, Bool.true_or, cut_map, ← List.map_append, ← List.map_reverse, castN, eq_self, Int.reduceEq, deqC, deq_self, rep_map, nls_dP, wsAugIx, tx_cps, tx_len, tx_app, tx_one, tx_nil, tx_cut, tx_signs, tx_rep, lit_empty, tx_inj, wJoin, gJoin, wmCall, wmOpL, wmOpR, wmIxR, wmTup2, wsSetM, wsAppM, wForM, gSum, gAny, gAll, gLtD, gInT, gSorted, gAddT, wThaw, gMaxL, wIsE, wIsV, wCallE, wTry, DEnds.off, gInB, wDct0, wCntB, wIdxB, wTryF, wIdxS, gInX, wGetDI, wsSetKeyI, gInDI, dctOf, gIns, gTup, wDct1, gEqR, wsSetG, wgd0, wgdC, wLck, wDctL, wGetD, dctOf, wsSetKey, wItems, wSortI, wsCallMD, endsMD, endMD, startMD, wFld, wsSetFld, wsAddFld, isO_rfl, wMeth, wMethF, wMethN, wmMeth, wsExprM, wsRetM, wmOne, wmCons, wMake, wmMake, wsSetMk, gToIntS, endsO, endO, startO, List.getElem?_cons_succ, wsSetV]
  refine loop_ind (S := Int × Sl) D.int (fun s => [.fz (.lst (c.map dP)), .fz (.lst (b.map D.int)), .fz (.int s.1), s.2]) (fun r s => s.1 + (r.map (tnc c)).sum = 0 ∧ ∀ k ∈ r, 0 ≤ k ∧ k < c.length ∧ nlc c k = n) ?_ ?_ _ (0, .un) ⟨by rw [hs]; rfl, hk⟩
  · rintro ⟨t, s⟩ ⟨h1, _⟩
    simp only [List.map_nil, List.sum_nil, Int.add_zero] at h1
    subst h1
    walk_at "s"
    exact q
  · rintro k r ⟨t, s⟩ K ⟨h1, h2⟩ ih
    obtain ⟨k0, k1, k2⟩ := h2 k (.head _)
    walk_at "s"
    refine ⟨_, at_pc k0 k1, z, hz, _, at_pc kz.1 kz.2.1, Br.t ?_ ?_⟩
    · simp [k2, kz.2.2]
    walk_at "s"
    refine ⟨_, at_pc k0 k1, ih (t + tnc c k, _) ⟨?_, fun k h => h2 k (.tail _ h)⟩⟩
    simp only [List.map_cons, List.sum_cons] at h1
    simp only
    omega
--@ law_numbers_right
def Rise (b : List Int) : Prop := b.Pairwise (· < ·)
def SP_law_numbers_right : Spec := fun ds _ R => ∃ (b : List Int) (n : Int), ds = [dI b, .int n] ∧ b ≠ [] ∧ Rise b ∧ b.length < 16777216 ∧ (∀ k ∈ b, 0 ≤ k ∧ k < n) ∧ R (.val (.bl true))
theorem len_law_numbers_right (ds : List D) (x : XS) (R : Rt → Prop) (h : SP_law_numbers_right ds x R) : ds.length = ["_law_block", "_law_many"].length := by
  obtain ⟨b, n, rfl, _⟩ := h; rfl
def W_law_numbers_right : WS :=
  (wSeqS (wIfS (wOr (wtNot (wtVal (wIsT "list" (wVar 0)))) (wtOn (wOp (gEq false) (wVar 0) (wNew (wLst wNil)))))
  (wsRet (wC (.bl false)))
  wsNil)
  (wSeqS (wFor (wRng1 (wB gLen (wCons (wVar 0) wNil))) (wgName 2)
  (wSeqS (wIfS (wOr (wtNot (wtVal (wIsT "int" (wOp gIdx (wVar 0) (wVar 2))))) (wOr (wtVal (wIsT "bool" (wOp gIdx (wVar 0) (wVar 2)))) (wtNot (wtOn (wChain (gCmp fun i j => decide (i ≤ j)) (gCmp fun i j => decide (i < j)) (wC (.int 0)) (wOp gIdx (wVar 0) (wVar 2)) (wVar 1))))))
  (wsRet (wC (.bl false)))
  wsNil)
  (wIfS (wAnd (wtOn (wOp (gCmp fun i j => decide (j < i)) (wVar 2) (wC (.int 0)))) (wtOn (wOp (gCmp fun i j => decide (i ≤ j)) (wOp gIdx (wVar 0) (wVar 2)) (wOp gIdx (wVar 0) (wOp (gInt0 fun i j => i - j) (wVar 2) (wC (.int 1)))))))
  (wsRet (wC (.bl false)))
  wsNil)))
  (wsRet (wC (.bl true)))))
theorem pure_law_numbers_right (ds : List D) (x : XS) (R : Rt → Prop) (h : SP_law_numbers_right ds x R) : W_law_numbers_right (endsOf R x) (startE 3 ds) := by
  obtain ⟨b, n, rfl, hb, hr, hl, hk, q⟩ := h
  simp only [W_law_numbers_right, wVar, wOwn, wC, wOp, onBl, wtOn, wChain, trD, wtVal, wtNot, wAnd, wOr, wAndV, wOrV, wNotV, wIf, wNil, wCons, wTup, wLst, wUn, wNew, gAdd, gInt, gInt0, gMul, gCatF, gRepF, wOpF, gEq, gCmp, gInS, gIsN, isN, gIsB, gIdx, woNone, woSome, gSl, wSl, gSlF, wSlF, wB, wBF, gLen, gInt1, gInt2, gToInt, gListF, tyName, gIsT, wIsT, wCall, Rt.d, Cn.d, onNew, wCallF, wCallN, wCallNF, nlR, wgName, wgNil, wgCons, wgTup, wSeq, wSeqT, wSigns, wRng1, wRng2, wRng3, wRev, wEnum, wZip, wLc, wtYes, wsNil, wsBrk, wsCnt, wsExpr, wsRet, wsRetF, wsRetOwn, wsRetN, wIfS, wsSet, wsSetF, wsAsg, wsPar, wsAug, gApp, gExt, gPop0, gRev, wMut, wsSetIx, wFor, wsRaise, wSeqS, wFrz, wsCallM, wsPopAdd, endsOf, endM, endsM, startM, startE, wipeE, smallI, CPow, Br_true, Br_false, Br_not, rngD_eq, dC, dP, dI, ex_atI_map, atI0, atI1, atI2, kit1, kit2, kit3, kit4, kit5, kit6, kit7, kit8, kit9, kit10, kit11, kit12, kit13, kit14, kit15, kit16, kit17, kit18, kit19, kit20, kit21, kit22, kit23, kit24, kit25, kit26, kit27, kit28, kit29, kit30, kit31, kit32, kit33, kit34, kit35, sizeLine_eq, true_and, and_true, exists_eq_left', Option.some.injEq, List.map_cons, List.map_nil, List.length_cons, List.length_nil, List.length_map, List.length_append, List.cons_append, List.nil_append, List.set_cons_zero, List.set_cons_succ, List.getElem?_cons_zero, List.getElem?_cons_succ, List.getElem?_nil, Nat.reduceSub, Nat.reduceAdd, Nat.zero_add, Nat.sub_self, List.replicate_succ, List.replicate_zero, Bool.false_bne, Bool.true_bne, Bool.false_xor, Bool.true_xor, Bool.not_true, Bool.not_false, Bool.not_not, beq_self_eq_true, Bool.and_true, Bool.true_and, nl, nls, decide_true, decide_false, exists_eq_left, Bool.false_eq_true, Option.some_inj, Int.reduceToNat, Int.reducePow, Int.reduceMul, Int.reduceSub, Int.reduceAdd, Int.reduceNeg, Nat.reducePow, Nat.reduceLeDiff, Int.reduceLE, Int.reduceLT, Int.reduceAbs, Int.natAbs_neg, Nat.reduceLT, divW_eq, mulW_eq, Bool.or_true, Bool.true_or, cut_map, ← List.map_append, ← List.map_reverse, castN, eq_self, Int.reduceEq, deqC, deq_self, rep_map, nls_dP, wsAugIx, tx_cps, tx_len, tx_app, tx_one, tx_nil, tx_cut, tx_signs, tx_rep, lit_empty, tx_inj, wJoin, gJoin, wmCall, wmOpL, wmOpR, wmIxR, wmTup2, wsSetM, wsAppM, wForM, gSum, gAny, gAll, gLtD, gInT, gSorted, gAddT, wThaw, gMaxL, wIsE, wIsV, wCallE, wTry, DEnds.off, gInB, wDct0, wCntB, wIdxB, wTryF, wIdxS, gInX, wGetDI, wsSetKeyI, gInDI, dctOf, gIns, gTup, wDct1, gEqR, wsSetG, wgd0, wgdC, wLck, wDctL, wGetD, dctOf, wsSetKey, wItems, wSortI, wsCallMD, endsMD, endMD, startMD, wFld, wsSetFld, wsAddFld, isO_rfl, wMeth, wMethF, wMethN, wmMeth, wsExprM, wsRetM, wmOne, wmCons, wMake, wmMake, wsSetMk, gToIntS, endsO, endO, startO, List.getElem?_cons_succ, wsSetV]
  have hne : deq (D.lst (b.map D.int)) (D.lst []) = decide (b = []) := deq_dec ⟨fun z => by
    have := D.lst.inj z
    simpa using this, fun z => by rw [z]; rfl⟩
  rw [hne]
  refine ⟨⟨?_, rfl⟩, Br.f hb ?_⟩
  · show (b.map D.int).all (nb 19) = true
    rw [List.all_map]
    exact List.all_eq_true.mpr fun _ _ => rfl
  walk_at "s"
  refine ⟨by omega, ?_⟩
  refine loop_ind (S := Sl) D.int (fun s => [.fz (.lst (b.map D.int)), .fz (.int n), s]) (fun r _ => ∀ k ∈ r, 0 ≤ k ∧ k < b.length) ?_ ?_ _ .un (fun k hk => ?_)
  · rintro s _
    walk_at "s"
    exact q
  · rintro k r s K h1 ih
    obtain ⟨k0, k1⟩ := h1 k (.head _)
    obtain ⟨j, rfl⟩ := Int.eq_ofNat_of_zero_le k0
    have hj : j < b.length := by omega
    have hz : atI b (j : Int) = some b[j] := atI_at rfl hj
    have kz := hk b[j] (List.getElem_mem hj)
    walk_at "s"
    refine ⟨_, hz, _, hz, _, hz, Br.t kz.1 ?_⟩
    simp only [decide_eq_true kz.2, Bool.not_true, Br_false]
    have ih : K [.fz (.lst (b.map D.int)), .fz (.int n), .fz (.int j)] := ih _ fun k h => h1 k (.tail _ h)
    refine Br.d (fun hp => ?_) (fun _ => ih)
    have hj1 : j - 1 < b.length := by omega
    have hz1 : atI b ((j : Int) - 1) = some b[j - 1] := atI_at (by omega) hj1
    refine ⟨.int b[j], by rw [atI_map, hz]; rfl, .int b[j - 1], by rw [atI_map, hz1]; rfl, ?_⟩
    have lt : b[j - 1] < b[j] := List.pairwise_iff_getElem.mp hr _ _ hj1 hj (by omega)
    exact Br.f (s := ⟨⟩) (t := ⟨⟩) (by omega) ih
  · obtain ⟨i, hi, rfl⟩ := mem_rng hk
    omega
--@ law_walked
/-! the blocks of a cord that falls -/
structure GB (i : Int) (M : List (List Int)) : Prop where
  ne : ∀ b ∈ M, b ≠ []
  up : ∀ b ∈ M, Rise b
  rg : ∀ b ∈ M, ∀ k ∈ b, 0 ≤ k ∧ k < i
  al : ∀ k, 0 ≤ k → k < i → ∃ b ∈ M, k ∈ b
  ds : M.Pairwise fun a b => ∀ k ∈ a, k ∉ b
theorem GB.perm {i : Int} {M N : List (List Int)} (g : GB i M) (h : M.Perm N) : GB i N :=
  ⟨fun b hb => g.ne b (h.mem_iff.mpr hb), fun b hb => g.up b (h.mem_iff.mpr hb), fun b hb => g.rg b (h.mem_iff.mpr hb), fun k h0 h1 => by
    obtain ⟨b, hb, hk⟩ := g.al k h0 h1
    exact ⟨b, h.mem_iff.mp hb, hk⟩, h.pairwise g.ds fun {a b} r k hk hk' => r k hk' hk⟩
theorem GB.new {i : Int} {M : List (List Int)} (hi : 0 ≤ i) (g : GB i M) : GB (i + 1) ([i] :: M) := by
  refine ⟨fun b hb => ?_, fun b hb => ?_, fun b hb k hk => ?_, fun k h0 h1 => ?_, List.pairwise_cons.mpr ⟨fun b hb k hk hk' => ?_, g.ds⟩⟩
  · rcases List.mem_cons.mp hb with rfl | hb
    · simp
    · exact g.ne b hb
  · rcases List.mem_cons.mp hb with rfl | hb
    · exact List.pairwise_singleton _ _
    · exact g.up b hb
  · rcases List.mem_cons.mp hb with rfl | hb
    · rw [List.mem_singleton] at hk; omega
    · have := g.rg b hb k hk; omega
  · by_cases z : k = i
    · exact ⟨[i], .head _, by rw [z]; exact List.mem_singleton.mpr rfl⟩
    · obtain ⟨b, hb, hk⟩ := g.al k h0 (by omega)
      exact ⟨b, .tail _ hb, hk⟩
  · rw [List.mem_singleton] at hk
    have := g.rg b hb k hk'
    omega
theorem rise_snoc {b : List Int} {i : Int} (h : Rise b) (g : ∀ k ∈ b, k < i) : Rise (b ++ [i]) :=
  List.pairwise_append.mpr ⟨h, List.pairwise_singleton _ _, fun a ha c hc => by rw [List.mem_singleton] at hc; rw [hc]; exact g a ha⟩
theorem GB.ext {i : Int} {c : List Int} {M : List (List Int)} (hi : 0 ≤ i) (g : GB i (c :: M)) : GB (i + 1) ((c ++ [i]) :: M) := by
  have gc := g.rg c (.head _)
  refine ⟨fun b hb => ?_, fun b hb => ?_, fun b hb k hk => ?_, fun k h0 h1 => ?_, List.pairwise_cons.mpr ⟨fun b hb k hk hk' => ?_, (List.pairwise_cons.mp g.ds).2⟩⟩
  · rcases List.mem_cons.mp hb with rfl | hb
    · simp
    · exact g.ne b (.tail _ hb)
  · rcases List.mem_cons.mp hb with rfl | hb
    · exact rise_snoc (g.up c (.head _)) fun k hk => (gc k hk).2
    · exact g.up b (.tail _ hb)
  · rcases List.mem_cons.mp hb with rfl | hb
    · rcases List.mem_append.mp hk with hk | hk
      · have := gc k hk; omega
      · rw [List.mem_singleton] at hk; omega
    · have := g.rg b (.tail _ hb) k hk; omega
  · by_cases z : k = i
    · exact ⟨c ++ [i], .head _, by rw [z]; simp⟩
    · obtain ⟨b, hb, hk⟩ := g.al k h0 (by omega)
      rcases List.mem_cons.mp hb with rfl | hb
      · exact ⟨b ++ [i], .head _, List.mem_append_left _ hk⟩
      · exact ⟨b, .tail _ hb, hk⟩
  · rcases List.mem_append.mp hk with hk | hk
    · exact (List.pairwise_cons.mp g.ds).1 b hb k hk hk'
    · rw [List.mem_singleton] at hk
      have := g.rg b (.tail _ hb) k hk'
      omega
def allB (s : Bst) : List (List Int) := s.1.map (·.2.2) ++ s.2
/-- what holds of each list -/
structure IB (c : List Pc) (s : Bst) : Prop where
  op : ∀ e ∈ s.1, e.2.1 ≠ 0 ∧ (∀ k ∈ e.2.2, nlc c k = e.1) ∧ (e.2.2.map (tnc c)).sum = e.2.1
  dn : ∀ b ∈ s.2, (∃ n, ∀ k ∈ b, nlc c k = n) ∧ (b.map (tnc c)).sum = 0
/-- the three ways a step goes -/
theorem bstep_cases (s : Bst) (k : Int) (p : Pc) :
    (p.2 = 0 ∧ bstep s k p = (s.1, s.2 ++ [[k]])) ∨ (p.2 ≠ 0 ∧ bstep s k p = ((p.1, p.2, [k]) :: s.1, s.2)) ∨
    ∃ t is r, s.1 = (p.1, t, is) :: r ∧ p.2 ≠ 0 ∧ ((t + p.2 = 0 ∧ bstep s k p = (r, s.2 ++ [is ++ [k]])) ∨ (t + p.2 ≠ 0 ∧ bstep s k p = ((p.1, t + p.2, is ++ [k]) :: r, s.2))) := by
  obtain ⟨st, dn⟩ := s
  unfold bstep
  by_cases h0 : p.2 = 0
  · exact .inl ⟨h0, if_pos h0⟩
  · rw [if_neg h0]
    cases st with
    | nil => exact .inr (.inl ⟨h0, rfl⟩)
    | cons e r =>
      obtain ⟨n, t, is⟩ := e
      by_cases h1 : n = p.1
      · subst h1
        refine .inr (.inr ⟨t, is, r, rfl, h0, ?_⟩)
        show (_ ∧ (if p.1 = p.1 then _ else _) = _) ∨ (_ ∧ (if p.1 = p.1 then _ else _) = _)
        rw [if_pos rfl]
        by_cases h2 : t + p.2 = 0
        · rw [if_pos h2]; exact .inl ⟨h2, rfl⟩
        · rw [if_neg h2]; exact .inr ⟨h2, rfl⟩
      · refine .inr (.inl ⟨h0, ?_⟩)
        show (if n = p.1 then _ else _) = _
        rw [if_neg h1]
theorem bstep_gb {s : Bst} {i : Int} {p : Pc} (hi : 0 ≤ i) (g : GB i (allB s)) : GB (i + 1) (allB (bstep s i p)) := by
  rcases bstep_cases s i p with ⟨_, e⟩ | ⟨_, e⟩ | ⟨t, is, r, e1, _, h⟩
  · rw [e]
    refine (g.new hi).perm ?_
    unfold allB
    rw [← List.append_assoc]
    exact (List.perm_append_singleton _ _).symm
  · rw [e]
    exact g.new hi
  · have g' : GB i (is :: (r.map (·.2.2) ++ s.2)) := by
      unfold allB at g
      rw [e1] at g
      exact g
    rcases h with ⟨_, e⟩ | ⟨_, e⟩
    · rw [e]
      refine (g'.ext hi).perm ?_
      unfold allB
      rw [← List.append_assoc]
      exact (List.perm_append_singleton _ _).symm
    · rw [e]
      exact g'.ext hi
theorem bstep_ib {c : List Pc} {s : Bst} {i : Int} {p : Pc} (hp : nlc c i = p.1 ∧ tnc c i = p.2) (g : IB c s) : IB c (bstep s i p) := by
  rcases bstep_cases s i p with ⟨h0, e⟩ | ⟨h0, e⟩ | ⟨t, is, r, e1, h0, h⟩
  · rw [e]
    refine ⟨g.op, fun b hb => ?_⟩
    rcases List.mem_append.mp hb with hb | hb
    · exact g.dn b hb
    · rw [List.mem_singleton] at hb
      subst hb
      exact ⟨⟨_, fun k hk => by rw [List.mem_singleton] at hk; rw [hk]⟩, by simp [hp.2, h0]⟩
  · rw [e]
    refine ⟨fun e he => ?_, g.dn⟩
    rcases List.mem_cons.mp he with rfl | he
    · exact ⟨h0, fun k hk => by rw [List.mem_singleton] at hk; rw [hk]; exact hp.1, by simp [hp.2]⟩
    · exact g.op e he
  · have ge := g.op (p.1, t, is) (by rw [e1]; exact .head _)
    have nl : ∀ k ∈ is ++ [i], nlc c k = p.1 := fun k hk => by
      rcases List.mem_append.mp hk with hk | hk
      · exact ge.2.1 k hk
      · rw [List.mem_singleton] at hk; rw [hk]; exact hp.1
    have sm : ((is ++ [i]).map (tnc c)).sum = t + p.2 := by
      have h3 : (is.map (tnc c)).sum = t := ge.2.2
      simp [h3, hp.2]
    have hr : ∀ e ∈ r, e ∈ s.1 := fun e he => by rw [e1]; exact .tail _ he
    rcases h with ⟨h2, e⟩ | ⟨h2, e⟩
    · rw [e]
      refine ⟨fun e he => g.op e (hr e he), fun b hb => ?_⟩
      rcases List.mem_append.mp hb with hb | hb
      · exact g.dn b hb
      · rw [List.mem_singleton] at hb
        subst hb
        exact ⟨⟨_, nl⟩, by rw [sm, h2]⟩
    · rw [e]
      refine ⟨fun e he => ?_, g.dn⟩
      rcases List.mem_cons.mp he with rfl | he
      · exact ⟨h2, nl, sm⟩
      · exact g.op e (hr e he)
theorem nl_at {c : List Pc} {i : Nat} {p : Pc} (h : c[i]? = some p) : nlc c (i : Nat) = p.1 ∧ tnc c (i : Nat) = p.2 := by
  unfold nlc tnc
  simp only [Int.toNat_natCast, h, and_self]
theorem bst_succ {c : List Pc} {i : Nat} {p : Pc} (h : c[i]? = some p) : bst c (i + 1) = bstep (bst c i) i p := by
  show (match c[i]? with | some p => _ | none => _) = _
  rw [h]
theorem bst_gb (c : List Pc) : ∀ i : Nat, i ≤ c.length → GB i (allB (bst c i)) ∧ IB c (bst c i)
  | 0, _ => ⟨⟨fun b hb => (by cases hb), fun b hb => (by cases hb), fun b hb => (by cases hb), fun k h0 h1 => (by omega), .nil⟩, ⟨fun e he => (by cases he), fun b hb => (by cases hb)⟩⟩
  | i + 1, hi => by
    obtain ⟨g1, g2⟩ := bst_gb c i (by omega)
    have hp : c[i]? = some c[i] := List.getElem?_eq_getElem (by omega)
    rw [bst_succ hp]
    exact ⟨bstep_gb (by omega) g1, bstep_ib (nl_at hp) g2⟩
/-- a list that is open or done lives on -/
theorem bstep_ext (s : Bst) (k : Int) (p : Pc) : (∀ b ∈ allB s, ∃ b' ∈ allB (bstep s k p), b <+: b') ∧ ∀ b ∈ s.2, b ∈ (bstep s k p).2 := by
  rcases bstep_cases s k p with ⟨_, e⟩ | ⟨_, e⟩ | ⟨t, is, r, e1, _, h⟩
  · rw [e]
    refine ⟨fun b hb => ⟨b, ?_, List.prefix_refl _⟩, fun b hb => List.mem_append_left _ hb⟩
    rcases List.mem_append.mp hb with hb | hb
    · exact List.mem_append_left _ hb
    · exact List.mem_append_right _ (List.mem_append_left _ hb)
  · rw [e]
    exact ⟨fun b hb => ⟨b, .tail _ hb, List.prefix_refl _⟩, fun b hb => hb⟩
  · have split : ∀ b ∈ allB s, b = is ∨ b ∈ r.map (·.2.2) ∨ b ∈ s.2 := fun b hb => by
      unfold allB at hb
      rw [e1] at hb
      rcases List.mem_append.mp hb with hb | hb
      · rcases List.mem_cons.mp hb with rfl | hb
        · exact .inl rfl
        · exact .inr (.inl hb)
      · exact .inr (.inr hb)
    rcases h with ⟨_, e⟩ | ⟨_, e⟩
    · rw [e]
      refine ⟨fun b hb => ?_, fun b hb => List.mem_append_left _ hb⟩
      rcases split b hb with rfl | hb | hb
      · exact ⟨b ++ [k], List.mem_append_right _ (List.mem_append_right _ (.head _)), List.prefix_append _ _⟩
      · exact ⟨b, List.mem_append_left _ hb, List.prefix_refl _⟩
      · exact ⟨b, List.mem_append_right _ (List.mem_append_left _ hb), List.prefix_refl _⟩
    · rw [e]
      refine ⟨fun b hb => ?_, fun b hb => hb⟩
      rcases split b hb with rfl | hb | hb
      · exact ⟨b ++ [k], .head _, List.prefix_append _ _⟩
      · exact ⟨b, .tail _ (List.mem_append_left _ hb), List.prefix_refl _⟩
      · exact ⟨b, .tail _ (List.mem_append_right _ hb), List.prefix_refl _⟩
theorem bst_ext (c : List Pc) (i : Nat) : ∀ j, i + j ≤ c.length → (∀ b ∈ allB (bst c i), ∃ b' ∈ allB (bst c (i + j)), b <+: b') ∧ ∀ b ∈ (bst c i).2, b ∈ (bst c (i + j)).2
  | 0, _ => ⟨fun b hb => ⟨b, hb, List.prefix_refl _⟩, fun b hb => hb⟩
  | j + 1, h => by
    obtain ⟨h1, h2⟩ := bst_ext c i j (by omega)
    have hp : c[i + j]? = some c[i + j] := List.getElem?_eq_getElem (by omega)
    obtain ⟨g1, g2⟩ := bstep_ext (bst c (i + j)) ((i + j : Nat) : Int) c[i + j]
    rw [← bst_succ hp] at g1 g2
    refine ⟨fun b hb => ?_, fun b hb => g2 b (h2 b hb)⟩
    obtain ⟨b', hb', p1⟩ := h1 b hb
    obtain ⟨b'', hb'', p2⟩ := g1 b' hb'
    exact ⟨b'', hb'', p1.trans p2⟩
theorem blk_all {c : List Pc} (h : nf c = []) : allB (bst c c.length) = blk c := by
  have hz : (bst c c.length).1 = [] := by
    have hn := bst_stk c c.length
    rw [List.take_length] at hn
    have hnf : (c.foldl stk []).reverse = nf c := short_nf c
    rw [← hn, h] at hnf
    have : stkB (bst c c.length) = [] := by simpa using hnf
    unfold stkB at this
    simpa using this
  unfold allB blk
  rw [hz]
  rfl
def hdZ : List Int → Int
  | [] => 0
  | x :: _ => x
def leH (a b : List Int) : Bool := decide (hdZ a ≤ hdZ b)
theorem py_ints (is : List Int) : py (D.lst (is.map .int)) = .list (is.map PyData.int) := by
  unfold py
  show PyData.list ((is.map D.int).map (toPy 19)) = _
  rw [List.map_map]
  rfl
theorem dlt_ints {x y : Int} (s t : List Int) (h : x ≠ y) : dlt (D.lst ((x :: s).map .int)) (D.lst ((y :: t).map .int)) = decide (x < y) := by
  unfold dlt PySem.W.dataLt
  rw [py_ints, py_ints]
  show PyProof.Rows.lexLt PyProof.Rows.itemOrd (.inl 1 :: (.inl x :: PySem.W.keyToksAll (s.map PyData.int))) (.inl 1 :: (.inl y :: PySem.W.keyToksAll (t.map PyData.int))) = _
  rw [PyProof.Rows.lex_self (O := PyProof.Rows.itemOrd), PyProof.Rows.lex_diff (O := PyProof.Rows.itemOrd) (fun z => h (Sum.inl.inj z))]
  rfl
theorem dlt_same (d : D) : dlt d d = false := PyProof.Rows.lex_irrefl _
theorem GB.hd {i : Int} {M : List (List Int)} (g : GB i M) {a b : List Int} (ha : a ∈ M) (hb : b ∈ M) {k : Int} (h1 : k ∈ a) (h2 : k ∈ b) : a = b := by
  obtain ⟨p, hp, rfl⟩ := List.mem_iff_getElem.mp ha
  obtain ⟨q, hq, rfl⟩ := List.mem_iff_getElem.mp hb
  rcases Nat.lt_trichotomy p q with z | z | z
  · exact absurd h2 (List.pairwise_iff_getElem.mp g.ds p q hp hq z k h1)
  · subst z; rfl
  · exact absurd h1 (List.pairwise_iff_getElem.mp g.ds q p hq hp z k h2)
theorem hd_mem {b : List Int} (h : b ≠ []) : hdZ b ∈ b := by
  cases b with
  | nil => exact absurd rfl h
  | cons x b => exact .head _
theorem sorL_eq {i : Int} {M : List (List Int)} (g : GB i M) : sorL M = M.mergeSort leH := by
  unfold sorL
  refine PySem.W.sort_congr fun a ha b hb => ?_
  unfold leH dle
  have na := g.ne a ha
  have nb := g.ne b hb
  by_cases z : hdZ a = hdZ b
  · have e : a = b := g.hd ha hb (hd_mem na) (by rw [z]; exact hd_mem nb)
    subst e
    rw [dlt_same]
    simp
  · cases a with
    | nil => exact absurd rfl na
    | cons x s =>
      cases b with
      | nil => exact absurd rfl nb
      | cons y t =>
        have z : x ≠ y := z
        rw [dlt_ints t s (fun h => z h.symm)]
        show (!decide (y < x)) = decide (x ≤ y)
        rw [← decide_not]
        exact decide_eq_decide.mpr (by omega)
theorem sorL_gb {i : Int} {M : List (List Int)} (g : GB i M) : GB i (sorL M) ∧ ∀ (a b : Nat) (ha : a < (sorL M).length) (hb : b < (sorL M).length), a < b → hdZ (sorL M)[a] < hdZ (sorL M)[b] := by
  have gs : GB i (sorL M) := g.perm (List.mergeSort_perm _ _).symm
  refine ⟨gs, fun a b ha hb hab => ?_⟩
  have hp : (sorL M).Pairwise fun a b => leH a b = true := by
    rw [sorL_eq g]
    exact List.pairwise_mergeSort (fun a b c h1 h2 => by unfold leH at *; simp only [decide_eq_true_eq] at *; omega) (fun a b => by unfold leH; simp only [Bool.or_eq_true, decide_eq_true_eq]; omega) _
  have le := List.pairwise_iff_getElem.mp hp a b ha hb hab
  unfold leH at le
  simp only [decide_eq_true_eq] at le
  refine Int.lt_iff_le_and_ne.mpr ⟨le, fun z => ?_⟩
  have na := gs.ne _ (List.getElem_mem ha)
  have nb := gs.ne _ (List.getElem_mem hb)
  have e := List.pairwise_iff_getElem.mp gs.ds a b ha hb hab (hdZ (sorL M)[a]) (hd_mem na)
  rw [z] at e
  exact e (hd_mem nb)
inductive All2 {α β : Type} (R : α → β → Prop) : List α → List β → Prop
  | nil : All2 R [] []
  | cons {a b as bs} : R a b → All2 R as bs → All2 R (a :: as) (b :: bs)
/-- what the walk knows -/
def Simu (L : List (List Int)) (s : Bst) (W : List Nat) : Prop := All2 (fun (m : Nat) (e : Str × Int × List Int) => ∃ b, L[m]? = some b ∧ e.2.2 <+: b) W s.1
theorem rise_last {b : List Int} {i : Int} (h : Rise (i :: b)) (g : (i :: b).getLast? = some i) : b = [] := by
  cases b with
  | nil => rfl
  | cons y r =>
    have hm : i ∈ y :: r := by
      have : (i :: y :: r).getLast? = (y :: r).getLast? := by simp [List.getLast?_cons_cons]
      rw [this] at g
      exact List.mem_of_getLast? g
    have := (List.pairwise_cons.mp h).1 i hm
    omega
theorem simu_step {c : List Pc} {L : List (List Int)} (hn : nf c = []) (hL : L.Perm (blk c)) {i : Nat} {p : Pc} (hp : c[i]? = some p) {W : List Nat} (hs : Simu L (bst c i) W) :
    ∃ m b, L[m]? = some b ∧ (i : Int) ∈ b ∧ ∀ W1, W1 = (if b.head? = some (i : Int) then m :: W else W) → W1.head? = some m ∧ Simu L (bst c (i + 1)) (if b.getLast? = some (i : Int) then W1.tail else W1) := by
  have hi : i < c.length := (List.getElem?_eq_some_iff.mp hp).1
  obtain ⟨gn, ib⟩ := bst_gb c c.length (Nat.le_refl _)
  rw [blk_all hn] at gn
  obtain ⟨gi, _⟩ := bst_gb c i (by omega)
  obtain ⟨gi1, ib1⟩ := bst_gb c (i + 1) (by omega)
  have gL : GB c.length L := gn.perm hL.symm
  have fut : ∀ b ∈ allB (bst c (i + 1)), ∃ b' m, L[m]? = some b' ∧ b <+: b' := fun b hb => by
    obtain ⟨h1, _⟩ := bst_ext c (i + 1) (c.length - (i + 1)) (by omega)
    rw [show i + 1 + (c.length - (i + 1)) = c.length by omega, blk_all hn] at h1
    obtain ⟨b', hb', pr⟩ := h1 b hb
    obtain ⟨m, hm⟩ := List.mem_iff_getElem?.mp (hL.mem_iff.mpr hb')
    exact ⟨b', m, hm, pr⟩
  have done : ∀ b ∈ (bst c (i + 1)).2, ∃ m, L[m]? = some b := fun b hb => by
    obtain ⟨_, h2⟩ := bst_ext c (i + 1) (c.length - (i + 1)) (by omega)
    rw [show i + 1 + (c.length - (i + 1)) = c.length by omega] at h2
    exact List.mem_iff_getElem?.mp (hL.mem_iff.mpr (h2 b hb))
  have sum0 : ∀ {m : Nat} {b : List Int}, L[m]? = some b → (b.map (tnc c)).sum = 0 := fun {m b} h => (ib.dn b (hL.mem_iff.mp (List.mem_of_getElem? h))).2
  have uniq : ∀ {m m' : Nat} {b b' : List Int} {k : Int}, L[m]? = some b → L[m']? = some b' → k ∈ b → k ∈ b' → m = m' := fun {m m' b b' k} h h' k1 k2 => by
    obtain ⟨l1, e1⟩ := List.getElem?_eq_some_iff.mp h
    obtain ⟨l2, e2⟩ := List.getElem?_eq_some_iff.mp h'
    subst e1 e2
    rcases Nat.lt_trichotomy m m' with z | z | z
    · exact absurd k2 (List.pairwise_iff_getElem.mp gL.ds m m' l1 l2 z k k1)
    · exact z
    · exact absurd k1 (List.pairwise_iff_getElem.mp gL.ds m' m l2 l1 z k k2)
  have hnl := nl_at hp
  rw [bst_succ hp] at fut done gi1 ib1 ⊢
  rcases bstep_cases (bst c i) i p with ⟨h0, e⟩ | ⟨h0, e⟩ | ⟨t, is, r, e1, h0, h⟩
  · rw [e] at fut done ib1 ⊢
    obtain ⟨m, hm⟩ := done [(i : Int)] (List.mem_append_right _ (.head _))
    refine ⟨m, _, hm, .head _, fun W1 hW => ?_⟩
    rw [if_pos (show [(i : Int)].head? = some (i : Int) from rfl)] at hW
    subst hW
    refine ⟨rfl, ?_⟩
    rw [if_pos (show [(i : Int)].getLast? = some (i : Int) from rfl)]
    exact hs
  · rw [e] at fut done ib1 ⊢
    obtain ⟨b, m, hm, pr⟩ := fut [(i : Int)] (.head _)
    obtain ⟨x, rfl⟩ := pr
    refine ⟨m, _, hm, .head _, fun W1 hW => ?_⟩
    rw [if_pos (show ([(i : Int)] ++ x).head? = some (i : Int) from rfl)] at hW
    subst hW
    refine ⟨rfl, ?_⟩
    rw [if_neg fun z => ?_]
    · exact All2.cons ⟨_, hm, x, rfl⟩ hs
    · have := rise_last (gL.up _ (List.mem_of_getElem? hm)) z
      subst this
      have := sum0 hm
      simp [hnl.2] at this
      exact h0 this
  · have gis := gi.rg is (by unfold allB; rw [e1]; exact .head _)
    have nis := gi.ne is (by unfold allB; rw [e1]; exact .head _)
    obtain ⟨y, is', rfl⟩ : ∃ y is', is = y :: is' := by cases is with
      | nil => exact absurd rfl nis
      | cons y is' => exact ⟨y, is', rfl⟩
    have hyi : y ≠ (i : Int) := by have := (gis y (.head _)).2; omega
    unfold Simu at hs
    rw [e1] at hs
    obtain ⟨m0, W', rfl, ⟨b0, hm0, pr0⟩, hs'⟩ : ∃ m0 W', W = m0 :: W' ∧ (∃ b, L[m0]? = some b ∧ (y :: is') <+: b) ∧ All2 (fun (m : Nat) (e : Str × Int × List Int) => ∃ b, L[m]? = some b ∧ e.2.2 <+: b) W' r := by
      cases hs with
      | cons h1 h2 => exact ⟨_, _, rfl, h1, h2⟩
    have yb0 : y ∈ b0 := pr0.subset (.head _)
    rcases h with ⟨h2, e⟩ | ⟨h2, e⟩
    · rw [e] at fut done ib1 ⊢
      obtain ⟨m, hm⟩ := done (y :: is' ++ [(i : Int)]) (List.mem_append_right _ (.head _))
      have em := uniq hm hm0 (.head _) yb0
      subst em
      refine ⟨m, _, hm, by simp, fun W1 hW => ?_⟩
      rw [if_neg (by simpa using hyi)] at hW
      subst hW
      refine ⟨rfl, ?_⟩
      rw [if_pos (by rw [List.getLast?_append]; rfl)]
      exact hs'
    · rw [e] at fut done ib1 ⊢
      obtain ⟨b, m, hm, pr⟩ := fut (y :: is' ++ [(i : Int)]) (.head _)
      have em := uniq hm hm0 (pr.subset (.head _)) yb0
      subst em
      have prs := pr
      obtain ⟨x, rfl⟩ := pr
      refine ⟨m, _, hm, by simp, fun W1 hW => ?_⟩
      rw [if_neg (by simpa using hyi)] at hW
      subst hW
      refine ⟨rfl, ?_⟩
      rw [if_neg fun z => ?_]
      · exact All2.cons ⟨_, hm, prs⟩ hs'
      · have up := gL.up _ (List.mem_of_getElem? hm)
        have up2 : Rise ((i : Int) :: x) := by
          unfold Rise at up ⊢
          rw [List.append_assoc] at up
          exact (List.pairwise_append.mp up).2.1
        have z2 : ((i : Int) :: x).getLast? = some (i : Int) := by
          rw [List.append_assoc, List.getLast?_append] at z
          simpa using z
        have := rise_last up2 z2
        subst this
        have := sum0 hm
        have s1 := (ib1.op _ (.head _)).2.2
        simp only [List.append_nil] at this
        rw [this] at s1
        exact h2 s1.symm
theorem bstep_tot (s : Bst) (k : Int) (p : Pc) : (allB (bstep s k p)).flatten.length = (allB s).flatten.length + 1 := by
  rcases bstep_cases s k p with ⟨_, e⟩ | ⟨_, e⟩ | ⟨t, is, r, e1, _, h⟩
  · rw [e]
    simp [allB]
    try omega
  · rw [e]
    simp [allB]
    try omega
  · obtain ⟨st, dn⟩ := s
    simp only at e1
    subst e1
    rcases h with ⟨_, e⟩ | ⟨_, e⟩
    · rw [e]
      simp [allB]
      try omega
    · rw [e]
      simp [allB]
      try omega
theorem bst_tot (c : List Pc) : ∀ i : Nat, i ≤ c.length → (allB (bst c i)).flatten.length = i
  | 0, _ => rfl
  | i + 1, hi => by
    have hp : c[i]? = some c[i] := List.getElem?_eq_getElem (by omega)
    rw [bst_succ hp, bstep_tot, bst_tot c i (by omega)]
abbrev Nm := List (Int × Int)
def kI (m : Nm) : List Key := m.map fun p => .inl p.1
def xI (m : Nm) : List D := m.map fun p => .int p.2
theorem lkI (k : Int) : ∀ m : Nm, lkK (kI m) (xI m) (.inl k) = (m.find? fun p => decide (p.1 = k)).map fun p => D.int p.2
  | [] => rfl
  | p :: m => by
    have ih := lkI k m
    unfold lkK at ih ⊢
    show (List.find? _ ((Sum.inl p.1, D.int p.2) :: (kI m).zip (xI m))).map _ = _
    by_cases e : p.1 = k
    · rw [List.find?_cons_of_pos (by simp [e]), List.find?_cons_of_pos (by simp [e])]
      rfl
    · rw [List.find?_cons_of_neg (by simp only [decide_eq_true_eq]; exact fun z => e (Sum.inl.inj z)), List.find?_cons_of_neg (by simpa using e)]
      exact ih
theorem lkI_no {k : Int} {m : Nm} (h : k ∉ m.map (·.1)) : lkK (kI m) (xI m) (.inl k) = none := by
  rw [lkI, List.find?_eq_none.mpr fun p hp => ?_]
  · rfl
  · simp only [decide_eq_true_eq]
    exact fun z => h (List.mem_map.mpr ⟨p, hp, z⟩)
theorem lkI_at {k v : Int} : ∀ {m : Nm}, (m.map (·.1)).Nodup → (k, v) ∈ m → lkK (kI m) (xI m) (.inl k) = some (.int v)
  | [], _, h => by cases h
  | p :: m, hn, h => by
    rw [List.map_cons, List.nodup_cons] at hn
    rw [lkI]
    rcases List.mem_cons.mp h with rfl | h
    · rw [List.find?_cons_of_pos (by simp)]
      rfl
    · have ne : p.1 ≠ k := fun z => hn.1 (List.mem_map.mpr ⟨_, h, z.symm⟩)
      rw [List.find?_cons_of_neg (by simpa using ne), ← lkI]
      exact lkI_at hn.2 h
theorem putI {k v : Int} {m : Nm} (h : k ∉ m.map (·.1)) : putKs (kI m) (.inl k) = kI (m ++ [(k, v)]) ∧ putXs (kI m) (xI m) (.inl k) (.int v) = xI (m ++ [(k, v)]) := by
  have hz : ¬ ((kI m).any fun j => decide (j = .inl k)) = true := by
    rw [List.any_eq_true]
    rintro ⟨j, hj, e⟩
    simp only [decide_eq_true_eq] at e
    obtain ⟨p, hp, rfl⟩ := List.mem_map.mp hj
    exact h (List.mem_map.mpr ⟨p, hp, Sum.inl.inj e⟩)
  unfold putKs putXs
  rw [if_neg hz, if_neg hz]
  simp [kI, xI]
def mkZ (Z : List (Nat × List Int)) : Nm := Z.flatMap fun p => p.2.map fun k => (k, (p.1 : Int))
theorem mkZ_fst (Z : List (Nat × List Int)) : (mkZ Z).map (·.1) = (Z.map (·.2)).flatten := by
  induction Z with
  | nil => rfl
  | cons p Z ih =>
    show ((p.2.map fun k => (k, (p.1 : Int))) ++ mkZ Z).map (·.1) = p.2 ++ _
    rw [List.map_append, ih, List.map_map]
    simp [Function.comp_def]
def zL (L : List (List Int)) : List (Nat × List Int) := (List.range L.length).zip L
theorem zL_snd (L : List (List Int)) : (zL L).map (·.2) = L := List.map_snd_zip (by simp)
theorem numbered_L (L : List (List Int)) : numbered (L.map fun is => D.lst (is.map .int)) = (zL L).map fun p => .tup [.int (p.1 : Nat), .lst (p.2.map .int)] := by
  unfold numbered zL
  rw [List.length_map, List.zip_map_right, List.map_map]
  rfl
theorem gb_nodup {i : Int} {L : List (List Int)} (g : GB i L) : L.flatten.Nodup := by
  refine List.pairwise_flatten.mpr ⟨fun b hb => (g.up b hb).imp fun h => Int.ne_of_lt h, g.ds.imp fun {a b} h x hx y hy z => ?_⟩
  subst z
  exact h x hx hy
theorem all2_len {α β : Type} {R : α → β → Prop} : ∀ {as : List α} {bs : List β}, All2 R as bs → as.length = bs.length
  | _, _, .nil => rfl
  | _, _, .cons _ h => by rw [List.length_cons, List.length_cons, all2_len h]
def SP_law_walked : Spec := fun ds _ R => ∃ c : List Pc, ds = [.lst ((sorL (blk c)).map fun is => .lst (is.map .int)), .int c.length] ∧ nf c = [] ∧ c.length ≤ 100000 ∧ R (.val (.bl true))
theorem len_law_walked (ds : List D) (x : XS) (R : Rt → Prop) (h : SP_law_walked ds x R) : ds.length = ["_law_found", "_law_many"].length := by
  obtain ⟨c, rfl, _⟩ := h; rfl
def W_law_walked_3_4 : WS :=
  (wIfS (wtOn (wOp (gEq false) (wOp gIdx (wOp gIdx (wVar 0) (wVar 5)) (wUn (fun i => -i) (wC (.int 1)))) (wVar 4)))
  (wMut 3 gPop0 wNil)
  wsNil)
def W_law_walked_3_3 : WS :=
  (wSeqS (wIfS (wtOn (wOp (gEq true) (wOp gIdx (wOwn 3) (wUn (fun i => -i) (wC (.int 1)))) (wVar 5)))
  (wsRet (wC (.bl false)))
  wsNil)
  W_law_walked_3_4)
def W_law_walked_3_2 : WS :=
  (wSeqS (wIfS (wtOn (wOp (gEq false) (wOp gIdx (wOp gIdx (wVar 0) (wVar 5)) (wC (.int 0))) (wVar 4)))
  (wMut 3 gApp (wCons (wVar 5) wNil))
  wsNil)
  W_law_walked_3_3)
def W_law_walked_3_1 : WS :=
  (wSeqS (wIfS (wtOn (wOp (gCmp fun i j => decide (i < j)) (wVar 5) (wC (.int 0))))
  (wsRet (wC (.bl false)))
  wsNil)
  W_law_walked_3_2)
def W_law_walked_3_0 : WS :=
  (wSeqS (wsSet 5 (wGetDI (wOwn 2) (wVar 4) (wUn (fun i => -i) (wC (.int 1)))))
  W_law_walked_3_1)
def W_law_walked_2 : WS :=
  (wSeqS (wsSetF 3 (wLst wNil))
  (wSeqS (wFor (wRng1 (wVar 1)) (wgName 4)
  W_law_walked_3_0)
  (wsRet (wC (.bl true)))))
def W_law_walked : WS :=
  (wSeqS (wsSetG 2 wgd0)
  (wSeqS (wFor (wEnum (wVar 0)) (wgTup 2 (wgCons (wgName 5) (wgCons (wgName 6) wgNil)))
  (wFor (wSeq (wVar 6)) (wgName 4)
  (wSeqS (wIfS (wtOn (wOp gInDI (wVar 4) (wOwn 2)))
  (wsRet (wC (.bl false)))
  wsNil)
  (wsSetKeyI 2 (wVar 5) (wVar 4)))))
  W_law_walked_2))
theorem walk_dct {i : Int} {L : List (List Int)} (gL : GB i L) {k : Int} {m : Nat} {b : List Int} (hm : L[m]? = some b) (hk : k ∈ b) : lkK (kI (mkZ (zL L))) (xI (mkZ (zL L))) (.inl k) = some (.int m) := by
  have nd : ((mkZ (zL L)).map (·.1)).Nodup := by rw [mkZ_fst, zL_snd]; exact gb_nodup gL
  refine lkI_at nd (List.mem_flatMap.mpr ⟨(m, b), ?_, List.mem_map.mpr ⟨k, hk, rfl⟩⟩)
  refine List.mem_iff_getElem?.mpr ⟨m, ?_⟩
  have := (List.getElem?_eq_some_iff.mp hm).1
  exact List.getElem?_zip_eq_some.mpr ⟨by simp [this], hm⟩
theorem walk_p34 {q : DEnds} {L : List (List Int)} {n : Int} {W1 : List Nat} {k : Int} {m : Nat} {b : List Int} {s6 : Sl} {ks : List Key} {xs : List D} (aL : atI L (m : Int) = some b) (gb : b ≠ []) (hd : W1.head? = some m)
    (h : q.nx [.fz (.lst (L.map fun is => .lst (is.map .int))), .fz (.int n), .own false (.dct ks xs), .own false (.lst ((if b.getLast? = some k then W1.tail else W1).reverse.map fun m : Nat => D.int m)), .fz (.int k), .fz (.int m), s6]) :
    W_law_walked_3_3 q [.fz (.lst (L.map fun is => .lst (is.map .int))), .fz (.int n), .own false (.dct ks xs), .own false (.lst (W1.reverse.map fun m : Nat => D.int m)), .fz (.int k), .fz (.int m), s6] := by
  obtain ⟨W, rfl⟩ : ∃ W, W1 = m :: W := by cases W1 with
    | nil => cases hd
    | cons x W => cases hd; exact ⟨W, rfl⟩
  have a1 : atI (m :: W).reverse (-1) = some m := atI_rev1
  simp only [W_law_walked_3_3, wVar, wOwn, wC, wOp, onBl, wtOn, wChain, trD, wtVal, wtNot, wAnd, wOr, wAndV, wOrV, wNotV, wIf, wNil, wCons, wTup, wLst, wUn, wNew, gAdd, gInt, gInt0, gMul, gCatF, gRepF, wOpF, gEq, gCmp, gInS, gIsN, isN, gIsB, gIdx, woNone, woSome, gSl, wSl, gSlF, wSlF, wB, wBF, gLen, gInt1, gInt2, gToInt, gListF, tyName, gIsT, wIsT, wCall, Rt.d, Cn.d, onNew, wCallF, wCallN, wCallNF, nlR, wgName, wgNil, wgCons, wgTup, wSeq, wSeqT, wSigns, wRng1, wRng2, wRng3, wRev, wEnum, wZip, wLc, wtYes, wsNil, wsBrk, wsCnt, wsExpr, wsRet, wsRetF, wsRetOwn, wsRetN, wIfS, wsSet, wsSetF, wsAsg, wsPar, wsAug, gApp, gExt, gPop0, gRev, wMut, wsSetIx, wFor, wsRaise, wSeqS, wFrz, wsCallM, wsPopAdd, endsOf, endM, endsM, startM, startE, wipeE, smallI, CPow, Br_true, Br_false, Br_not, rngD_eq, dC, dP, dI, ex_atI_map, atI0, atI1, atI2, kit1, kit2, kit3, kit4, kit5, kit6, kit7, kit8, kit9, kit10, kit11, kit12, kit13, kit14, kit15, kit16, kit17, kit18, kit19, kit20, kit21, kit22, kit23, kit24, kit25, kit26, kit27, kit28, kit29, kit30, kit31, kit32, kit33, kit34, kit35, sizeLine_eq, true_and, and_true, exists_eq_left', Option.some.injEq, List.map_cons, List.map_nil, List.length_cons, List.length_nil, List.length_map, List.length_append, List.cons_append, List.nil_append, List.set_cons_zero, List.set_cons_succ, List.getElem?_cons_zero, List.getElem?_cons_succ, List.getElem?_nil, Nat.reduceSub, Nat.reduceAdd, Nat.zero_add, Nat.sub_self, List.replicate_succ, List.replicate_zero, Bool.false_bne, Bool.true_bne, Bool.false_xor, Bool.true_xor, Bool.not_true, Bool.not_false, Bool.not_not, beq_self_eq_true, Bool.and_true, Bool.true_and, nl, nls, decide_true, decide_false, exists_eq_left, Bool.false_eq_true, Option.some_inj, Int.reduceToNat, Int.reducePow, Int.reduceMul, Int.reduceSub, Int.reduceAdd, Int.reduceNeg, Nat.reducePow, Nat.reduceLeDiff, Int.reduceLE, Int.reduceLT, Int.reduceAbs, Int.natAbs_neg, Nat.reduceLT, divW_eq, mulW_eq, Bool.or_true, Bool.true_or, cut_map, ← List.map_append, ← List.map_reverse, castN, eq_self, Int.reduceEq, deqC, deq_self, rep_map, nls_dP, wsAugIx, tx_cps, tx_len, tx_app, tx_one, tx_nil, tx_cut, tx_signs, tx_rep, lit_empty, tx_inj, wJoin, gJoin, wmCall, wmOpL, wmOpR, wmIxR, wmTup2, wsSetM, wsAppM, wForM, gSum, gAny, gAll, gLtD, gInT, gSorted, gAddT, wThaw, gMaxL, wIsE, wIsV, wCallE, wTry, DEnds.off, gInB, wDct0, wCntB, wIdxB, wTryF, wIdxS, gInX, wGetDI, wsSetKeyI, gInDI, dctOf, gIns, gTup, wDct1, gEqR, wsSetG, wgd0, wgdC, wLck, wDctL, wGetD, dctOf, wsSetKey, wItems, wSortI, wsCallMD, endsMD, endMD, startMD, wFld, wsSetFld, wsAddFld, isO_rfl, wMeth, wMethF, wMethN, wmMeth, wsExprM, wsRetM, wmOne, wmCons, wMake, wmMake, wsSetMk, gToIntS, endsO, endO, startO, List.getElem?_cons_succ, wsSetV]
  refine ⟨m, a1, Br.t rfl ?_⟩
  simp only [W_law_walked_3_4, wVar, wOwn, wC, wOp, onBl, wtOn, wChain, trD, wtVal, wtNot, wAnd, wOr, wAndV, wOrV, wNotV, wIf, wNil, wCons, wTup, wLst, wUn, wNew, gAdd, gInt, gInt0, gMul, gCatF, gRepF, wOpF, gEq, gCmp, gInS, gIsN, isN, gIsB, gIdx, woNone, woSome, gSl, wSl, gSlF, wSlF, wB, wBF, gLen, gInt1, gInt2, gToInt, gListF, tyName, gIsT, wIsT, wCall, Rt.d, Cn.d, onNew, wCallF, wCallN, wCallNF, nlR, wgName, wgNil, wgCons, wgTup, wSeq, wSeqT, wSigns, wRng1, wRng2, wRng3, wRev, wEnum, wZip, wLc, wtYes, wsNil, wsBrk, wsCnt, wsExpr, wsRet, wsRetF, wsRetOwn, wsRetN, wIfS, wsSet, wsSetF, wsAsg, wsPar, wsAug, gApp, gExt, gPop0, gRev, wMut, wsSetIx, wFor, wsRaise, wSeqS, wFrz, wsCallM, wsPopAdd, endsOf, endM, endsM, startM, startE, wipeE, smallI, CPow, Br_true, Br_false, Br_not, rngD_eq, dC, dP, dI, ex_atI_map, atI0, atI1, atI2, kit1, kit2, kit3, kit4, kit5, kit6, kit7, kit8, kit9, kit10, kit11, kit12, kit13, kit14, kit15, kit16, kit17, kit18, kit19, kit20, kit21, kit22, kit23, kit24, kit25, kit26, kit27, kit28, kit29, kit30, kit31, kit32, kit33, kit34, kit35, sizeLine_eq, true_and, and_true, exists_eq_left', Option.some.injEq, List.map_cons, List.map_nil, List.length_cons, List.length_nil, List.length_map, List.length_append, List.cons_append, List.nil_append, List.set_cons_zero, List.set_cons_succ, List.getElem?_cons_zero, List.getElem?_cons_succ, List.getElem?_nil, Nat.reduceSub, Nat.reduceAdd, Nat.zero_add, Nat.sub_self, List.replicate_succ, List.replicate_zero, Bool.false_bne, Bool.true_bne, Bool.false_xor, Bool.true_xor, Bool.not_true, Bool.not_false, Bool.not_not, beq_self_eq_true, Bool.and_true, Bool.true_and, nl, nls, decide_true, decide_false, exists_eq_left, Bool.false_eq_true, Option.some_inj, Int.reduceToNat, Int.reducePow, Int.reduceMul, Int.reduceSub, Int.reduceAdd, Int.reduceNeg, Nat.reducePow, Nat.reduceLeDiff, Int.reduceLE, Int.reduceLT, Int.reduceAbs, Int.natAbs_neg, Nat.reduceLT, divW_eq, mulW_eq, Bool.or_true, Bool.true_or, cut_map, ← List.map_append, ← List.map_reverse, castN, eq_self, Int.reduceEq, deqC, deq_self, rep_map, nls_dP, wsAugIx, tx_cps, tx_len, tx_app, tx_one, tx_nil, tx_cut, tx_signs, tx_rep, lit_empty, tx_inj, wJoin, gJoin, wmCall, wmOpL, wmOpR, wmIxR, wmTup2, wsSetM, wsAppM, wForM, gSum, gAny, gAll, gLtD, gInT, gSorted, gAddT, wThaw, gMaxL, wIsE, wIsV, wCallE, wTry, DEnds.off, gInB, wDct0, wCntB, wIdxB, wTryF, wIdxS, gInX, wGetDI, wsSetKeyI, gInDI, dctOf, gIns, gTup, wDct1, gEqR, wsSetG, wgd0, wgdC, wLck, wDctL, wGetD, dctOf, wsSetKey, wItems, wSortI, wsCallMD, endsMD, endMD, startMD, wFld, wsSetFld, wsAddFld, isO_rfl, wMeth, wMethF, wMethN, wmMeth, wsExprM, wsRetM, wmOne, wmCons, wMake, wmMake, wsSetMk, gToIntS, endsO, endO, startO, List.getElem?_cons_succ, wsSetV]
  obtain ⟨z, hz⟩ : ∃ z, b.getLast? = some z := by
    cases hz : b.getLast? with
    | none => exact absurd (List.getLast?_eq_none_iff.mp hz) gb
    | some z => exact ⟨z, rfl⟩
  rw [hz] at h
  refine ⟨b, aL, z, by rw [atI_neg1]; exact hz, Br.d (fun e => ?_) (fun e => ?_)⟩
  · subst e
    rw [if_pos rfl] at h
    have ed : ((m :: W).reverse.map fun m : Nat => D.int m).dropLast = W.reverse.map fun m : Nat => D.int m := by
      rw [List.reverse_cons, List.map_append, List.map_cons, List.map_nil, List.dropLast_concat]
    rw [ed]
    exact ⟨by simp, h⟩
  · rw [if_neg (fun z => e (Option.some.inj z))] at h
    exact h
theorem walk_p31 {q : DEnds} {L : List (List Int)} {n : Int} {W W1 : List Nat} {k : Int} {m : Nat} {b : List Int} {s6 : Sl} {ks : List Key} {xs : List D} (aL : atI L (m : Int) = some b) (gb : b ≠ []) (lW : W.length < 16777216) (e1 : W1 = (if b.head? = some k then m :: W else W))
    (h : W_law_walked_3_3 q [.fz (.lst (L.map fun is => .lst (is.map .int))), .fz (.int n), .own false (.dct ks xs), .own false (.lst (W1.reverse.map fun m : Nat => D.int m)), .fz (.int k), .fz (.int m), s6]) :
    W_law_walked_3_1 q [.fz (.lst (L.map fun is => .lst (is.map .int))), .fz (.int n), .own false (.dct ks xs), .own false (.lst (W.reverse.map fun m : Nat => D.int m)), .fz (.int k), .fz (.int m), s6] := by
  simp only [W_law_walked_3_1, wVar, wOwn, wC, wOp, onBl, wtOn, wChain, trD, wtVal, wtNot, wAnd, wOr, wAndV, wOrV, wNotV, wIf, wNil, wCons, wTup, wLst, wUn, wNew, gAdd, gInt, gInt0, gMul, gCatF, gRepF, wOpF, gEq, gCmp, gInS, gIsN, isN, gIsB, gIdx, woNone, woSome, gSl, wSl, gSlF, wSlF, wB, wBF, gLen, gInt1, gInt2, gToInt, gListF, tyName, gIsT, wIsT, wCall, Rt.d, Cn.d, onNew, wCallF, wCallN, wCallNF, nlR, wgName, wgNil, wgCons, wgTup, wSeq, wSeqT, wSigns, wRng1, wRng2, wRng3, wRev, wEnum, wZip, wLc, wtYes, wsNil, wsBrk, wsCnt, wsExpr, wsRet, wsRetF, wsRetOwn, wsRetN, wIfS, wsSet, wsSetF, wsAsg, wsPar, wsAug, gApp, gExt, gPop0, gRev, wMut, wsSetIx, wFor, wsRaise, wSeqS, wFrz, wsCallM, wsPopAdd, endsOf, endM, endsM, startM, startE, wipeE, smallI, CPow, Br_true, Br_false, Br_not, rngD_eq, dC, dP, dI, ex_atI_map, atI0, atI1, atI2, kit1, kit2, kit3, kit4, kit5, kit6, kit7, kit8, kit9, kit10, kit11, kit12, kit13, kit14, kit15, kit16, kit17, kit18, kit19, kit20, kit21, kit22, kit23, kit24, kit25, kit26, kit27, kit28, kit29, kit30, kit31, kit32, kit33, kit34, kit35, sizeLine_eq, true_and, and_true, exists_eq_left', Option.some.injEq, List.map_cons, List.map_nil, List.length_cons, List.length_nil, List.length_map, List.length_append, List.cons_append, List.nil_append, List.set_cons_zero, List.set_cons_succ, List.getElem?_cons_zero, List.getElem?_cons_succ, List.getElem?_nil, Nat.reduceSub, Nat.reduceAdd, Nat.zero_add, Nat.sub_self, List.replicate_succ, List.replicate_zero, Bool.false_bne, Bool.true_bne, Bool.false_xor, Bool.true_xor, Bool.not_true, Bool.not_false, Bool.not_not, beq_self_eq_true, Bool.and_true, Bool.true_and, nl, nls, decide_true, decide_false, exists_eq_left, Bool.false_eq_true, Option.some_inj, Int.reduceToNat, Int.reducePow, Int.reduceMul, Int.reduceSub, Int.reduceAdd, Int.reduceNeg, Nat.reducePow, Nat.reduceLeDiff, Int.reduceLE, Int.reduceLT, Int.reduceAbs, Int.natAbs_neg, Nat.reduceLT, divW_eq, mulW_eq, Bool.or_true, Bool.true_or, cut_map, ← List.map_append, ← List.map_reverse, castN, eq_self, Int.reduceEq, deqC, deq_self, rep_map, nls_dP, wsAugIx, tx_cps, tx_len, tx_app, tx_one, tx_nil, tx_cut, tx_signs, tx_rep, lit_empty, tx_inj, wJoin, gJoin, wmCall, wmOpL, wmOpR, wmIxR, wmTup2, wsSetM, wsAppM, wForM, gSum, gAny, gAll, gLtD, gInT, gSorted, gAddT, wThaw, gMaxL, wIsE, wIsV, wCallE, wTry, DEnds.off, gInB, wDct0, wCntB, wIdxB, wTryF, wIdxS, gInX, wGetDI, wsSetKeyI, gInDI, dctOf, gIns, gTup, wDct1, gEqR, wsSetG, wgd0, wgdC, wLck, wDctL, wGetD, dctOf, wsSetKey, wItems, wSortI, wsCallMD, endsMD, endMD, startMD, wFld, wsSetFld, wsAddFld, isO_rfl, wMeth, wMethF, wMethN, wmMeth, wsExprM, wsRetM, wmOne, wmCons, wMake, wmMake, wsSetMk, gToIntS, endsO, endO, startO, List.getElem?_cons_succ, wsSetV]
  refine Br.f (by omega) ?_
  simp only [W_law_walked_3_2, wVar, wOwn, wC, wOp, onBl, wtOn, wChain, trD, wtVal, wtNot, wAnd, wOr, wAndV, wOrV, wNotV, wIf, wNil, wCons, wTup, wLst, wUn, wNew, gAdd, gInt, gInt0, gMul, gCatF, gRepF, wOpF, gEq, gCmp, gInS, gIsN, isN, gIsB, gIdx, woNone, woSome, gSl, wSl, gSlF, wSlF, wB, wBF, gLen, gInt1, gInt2, gToInt, gListF, tyName, gIsT, wIsT, wCall, Rt.d, Cn.d, onNew, wCallF, wCallN, wCallNF, nlR, wgName, wgNil, wgCons, wgTup, wSeq, wSeqT, wSigns, wRng1, wRng2, wRng3, wRev, wEnum, wZip, wLc, wtYes, wsNil, wsBrk, wsCnt, wsExpr, wsRet, wsRetF, wsRetOwn, wsRetN, wIfS, wsSet, wsSetF, wsAsg, wsPar, wsAug, gApp, gExt, gPop0, gRev, wMut, wsSetIx, wFor, wsRaise, wSeqS, wFrz, wsCallM, wsPopAdd, endsOf, endM, endsM, startM, startE, wipeE, smallI, CPow, Br_true, Br_false, Br_not, rngD_eq, dC, dP, dI, ex_atI_map, atI0, atI1, atI2, kit1, kit2, kit3, kit4, kit5, kit6, kit7, kit8, kit9, kit10, kit11, kit12, kit13, kit14, kit15, kit16, kit17, kit18, kit19, kit20, kit21, kit22, kit23, kit24, kit25, kit26, kit27, kit28, kit29, kit30, kit31, kit32, kit33, kit34, kit35, sizeLine_eq, true_and, and_true, exists_eq_left', Option.some.injEq, List.map_cons, List.map_nil, List.length_cons, List.length_nil, List.length_map, List.length_append, List.cons_append, List.nil_append, List.set_cons_zero, List.set_cons_succ, List.getElem?_cons_zero, List.getElem?_cons_succ, List.getElem?_nil, Nat.reduceSub, Nat.reduceAdd, Nat.zero_add, Nat.sub_self, List.replicate_succ, List.replicate_zero, Bool.false_bne, Bool.true_bne, Bool.false_xor, Bool.true_xor, Bool.not_true, Bool.not_false, Bool.not_not, beq_self_eq_true, Bool.and_true, Bool.true_and, nl, nls, decide_true, decide_false, exists_eq_left, Bool.false_eq_true, Option.some_inj, Int.reduceToNat, Int.reducePow, Int.reduceMul, Int.reduceSub, Int.reduceAdd, Int.reduceNeg, Nat.reducePow, Nat.reduceLeDiff, Int.reduceLE, Int.reduceLT, Int.reduceAbs, Int.natAbs_neg, Nat.reduceLT, divW_eq, mulW_eq, Bool.or_true, Bool.true_or, cut_map, ← List.map_append, ← List.map_reverse, castN, eq_self, Int.reduceEq, deqC, deq_self, rep_map, nls_dP, wsAugIx, tx_cps, tx_len, tx_app, tx_one, tx_nil, tx_cut, tx_signs, tx_rep, lit_empty, tx_inj, wJoin, gJoin, wmCall, wmOpL, wmOpR, wmIxR, wmTup2, wsSetM, wsAppM, wForM, gSum, gAny, gAll, gLtD, gInT, gSorted, gAddT, wThaw, gMaxL, wIsE, wIsV, wCallE, wTry, DEnds.off, gInB, wDct0, wCntB, wIdxB, wTryF, wIdxS, gInX, wGetDI, wsSetKeyI, gInDI, dctOf, gIns, gTup, wDct1, gEqR, wsSetG, wgd0, wgdC, wLck, wDctL, wGetD, dctOf, wsSetKey, wItems, wSortI, wsCallMD, endsMD, endMD, startMD, wFld, wsSetFld, wsAddFld, isO_rfl, wMeth, wMethF, wMethN, wmMeth, wsExprM, wsRetM, wmOne, wmCons, wMake, wmMake, wsSetMk, gToIntS, endsO, endO, startO, List.getElem?_cons_succ, wsSetV]
  obtain ⟨y, b', rfl⟩ : ∃ y b', b = y :: b' := by cases b with
    | nil => exact absurd rfl gb
    | cons y b' => exact ⟨y, b', rfl⟩
  refine ⟨_, aL, y, atI0, Br.d (fun e => ?_) (fun e => ?_)⟩
  · subst e
    rw [if_pos (show (y :: b').head? = some y from rfl)] at e1
    subst e1
    have lw : (W.reverse.map fun m : Nat => D.int m).length < 16777216 := by rw [List.length_map, List.length_reverse]; exact lW
    have ew : (W.reverse.map fun m : Nat => D.int m) ++ [D.int m] = (m :: W).reverse.map fun m : Nat => D.int m := by simp
    rw [← ew] at h
    exact ⟨lw, h⟩
  · rw [if_neg (show ¬ (y :: b').head? = some k from fun z => e (Option.some.inj z))] at e1
    subst e1
    exact h
theorem walk_p30 (w : WS) {q : DEnds} {d0 : D} {n : Int} {l3 : List D} {k : Int} {m : D} {s5 s6 : Sl} {ks : List Key} {xs : List D} (hlk : lkK ks xs (.inl k) = some m)
    (h : w q [.fz d0, .fz (.int n), .own false (.dct ks xs), .own false (.lst l3), .fz (.int k), .fz m, s6]) :
    wSeqS (wsSet 5 (wGetDI (wOwn 2) (wVar 4) (wUn (fun i => -i) (wC (.int 1))))) w q [.fz d0, .fz (.int n), .own false (.dct ks xs), .own false (.lst l3), .fz (.int k), s5, s6] := by
  have e : (lkK ks xs (.inl k)).getD (.int (-1)) = m := by rw [hlk]; rfl
  rw [← e] at h
  exact h
theorem walk_p2 {c : List Pc} {n : Nat} {L : List (List Int)} {x : XS} {R : Rt → Prop} {s3 s4 s5 s6 : Sl} {ks : List Key} {xs : List D} (hn : n = c.length) (hl : n ≤ 100000) (gne : ∀ b ∈ L, b ≠ []) (hd : ∀ (k : Int) (m : Nat) (b : List Int), L[m]? = some b → k ∈ b → lkK ks xs (.inl k) = some (.int m))
    (sim : ∀ (i : Nat) (p : Pc), c[i]? = some p → ∀ W, Simu L (bst c i) W → ∃ m b, L[m]? = some b ∧ (i : Int) ∈ b ∧ ∀ W1, W1 = (if b.head? = some (i : Int) then m :: W else W) → W1.head? = some m ∧ Simu L (bst c (i + 1)) (if b.getLast? = some (i : Int) then W1.tail else W1))
    (q : R (.val (.bl true))) :
    W_law_walked_2 ⟨fun _ => R (.val .non), fun r _ => R r, fun _ => False, fun _ => False, x⟩ [.fz (.lst (L.map fun is => .lst (is.map .int))), .fz (.int n), .own false (.dct ks xs), s3, s4, s5, s6] := by
  simp only [W_law_walked_2, wVar, wOwn, wC, wOp, onBl, wtOn, wChain, trD, wtVal, wtNot, wAnd, wOr, wAndV, wOrV, wNotV, wIf, wNil, wCons, wTup, wLst, wUn, wNew, gAdd, gInt, gInt0, gMul, gCatF, gRepF, wOpF, gEq, gCmp, gInS, gIsN, isN, gIsB, gIdx, woNone, woSome, gSl, wSl, gSlF, wSlF, wB, wBF, gLen, gInt1, gInt2, gToInt, gListF, tyName, gIsT, wIsT, wCall, Rt.d, Cn.d, onNew, wCallF, wCallN, wCallNF, nlR, wgName, wgNil, wgCons, wgTup, wSeq, wSeqT, wSigns, wRng1, wRng2, wRng3, wRev, wEnum, wZip, wLc, wtYes, wsNil, wsBrk, wsCnt, wsExpr, wsRet, wsRetF, wsRetOwn, wsRetN, wIfS, wsSet, wsSetF, wsAsg, wsPar, wsAug, gApp, gExt, gPop0, gRev, wMut, wsSetIx, wFor, wsRaise, wSeqS, wFrz, wsCallM, wsPopAdd, endsOf, endM, endsM, startM, startE, wipeE, smallI, CPow, Br_true, Br_false, Br_not, rngD_eq, dC, dP, dI, ex_atI_map, atI0, atI1, atI2, kit1, kit2, kit3, kit4, kit5, kit6, kit7, kit8, kit9, kit10, kit11, kit12, kit13, kit14, kit15, kit16, kit17, kit18, kit19, kit20, kit21, kit22, kit23, kit24, kit25, kit26, kit27, kit28, kit29, kit30, kit31, kit32, kit33, kit34, kit35, sizeLine_eq, true_and, and_true, exists_eq_left', Option.some.injEq, List.map_cons, List.map_nil, List.length_cons, List.length_nil, List.length_map, List.length_append, List.cons_append, List.nil_append, List.set_cons_zero, List.set_cons_succ, List.getElem?_cons_zero, List.getElem?_cons_succ, List.getElem?_nil, Nat.reduceSub, Nat.reduceAdd, Nat.zero_add, Nat.sub_self, List.replicate_succ, List.replicate_zero, Bool.false_bne, Bool.true_bne, Bool.false_xor, Bool.true_xor, Bool.not_true, Bool.not_false, Bool.not_not, beq_self_eq_true, Bool.and_true, Bool.true_and, nl, nls, decide_true, decide_false, exists_eq_left, Bool.false_eq_true, Option.some_inj, Int.reduceToNat, Int.reducePow, Int.reduceMul, Int.reduceSub, Int.reduceAdd, Int.reduceNeg, Nat.reducePow, Nat.reduceLeDiff, Int.reduceLE, Int.reduceLT, Int.reduceAbs, Int.natAbs_neg, Nat.reduceLT, divW_eq, mulW_eq, Bool.or_true, Bool.true_or, cut_map, ← List.map_append, ← List.map_reverse, castN, eq_self, Int.reduceEq, deqC, deq_self, rep_map, nls_dP, wsAugIx, tx_cps, tx_len, tx_app, tx_one, tx_nil, tx_cut, tx_signs, tx_rep, lit_empty, tx_inj, wJoin, gJoin, wmCall, wmOpL, wmOpR, wmIxR, wmTup2, wsSetM, wsAppM, wForM, gSum, gAny, gAll, gLtD, gInT, gSorted, gAddT, wThaw, gMaxL, wIsE, wIsV, wCallE, wTry, DEnds.off, gInB, wDct0, wCntB, wIdxB, wTryF, wIdxS, gInX, wGetDI, wsSetKeyI, gInDI, dctOf, gIns, gTup, wDct1, gEqR, wsSetG, wgd0, wgdC, wLck, wDctL, wGetD, dctOf, wsSetKey, wItems, wSortI, wsCallMD, endsMD, endMD, startMD, wFld, wsSetFld, wsAddFld, isO_rfl, wMeth, wMethF, wMethN, wmMeth, wsExprM, wsRetM, wmOne, wmCons, wMake, wmMake, wsSetMk, gToIntS, endsO, endO, startO, List.getElem?_cons_succ, wsSetV]
  refine ⟨by omega, ?_⟩
  have er : (rng 0 1 n).map D.int = (List.range n).map fun i : Nat => D.int i := by
    unfold rng
    rw [List.map_map]
    exact List.map_congr_left fun i _ => by simp
  have hl' : n < 16777216 := by omega
  rw [Int.toNat_natCast, er]
  refine loop_ind (S := List Nat × Sl × Sl × Sl) (fun i : Nat => D.int i) (fun s => [.fz (.lst (L.map fun is => .lst (is.map .int))), .fz (.int n), .own false (.dct ks xs), .own false (.lst (s.1.reverse.map fun m : Nat => D.int m)), s.2.1, s.2.2.1, s.2.2.2])
    (fun r s => ∃ i, r = (List.range n).drop i ∧ i ≤ n ∧ Simu L (bst c i) s.1) ?_ ?_ _ ([], s4, s5, s6) ⟨0, rfl, by omega, .nil⟩
  · rintro ⟨W, s4, s5, s6⟩ _
    walk_at "s"
    exact q
  · rintro k r ⟨W, s4, s5, s6⟩ K ⟨i, h1, h2, h3⟩ ih
    obtain ⟨hi, rfl, h1⟩ := rng_next h1
    simp only at h3
    have hp : c[k]? = some c[k] := List.getElem?_eq_getElem (by omega)
    obtain ⟨m, b, hm, hk, hW⟩ := sim k _ hp W h3
    have hlk := hd k m b hm hk
    have hmL : m < L.length := (List.getElem?_eq_some_iff.mp hm).1
    have gb := gne b (List.mem_of_getElem? hm)
    have aL : atI L (m : Int) = some b := by rw [atI_at (j := m) rfl hmL]; exact (List.getElem?_eq_getElem hmL).symm.trans hm
    have lW := all2_len h3
    have lB := (bst_len c k).1
    obtain ⟨W1, e1⟩ : ∃ W1, W1 = (if b.head? = some (k : Int) then m :: W else W) := ⟨_, rfl⟩
    obtain ⟨w1, w2⟩ := hW W1 e1
    have fin := walk_p31 (lW := Nat.lt_of_le_of_lt (Nat.le_trans (Nat.le_of_eq lW) (Nat.le_trans lB (Nat.le_of_lt hi))) hl') aL gb e1 (walk_p34 (q := ⟨K, fun r _ => R r, wsRet (wC (.bl true)) ⟨fun _ => R (.val .non), fun r _ => R r, fun _ => False, fun _ => False, x⟩, K, x⟩) (n := n) (k := k) (s6 := s6) (ks := ks) (xs := xs) aL gb w1 (ih (_, _, _, _) ⟨k + 1, h1, hi, w2⟩))
    clear ih hW w1 w2
    exact walk_p30 _ hlk fin
theorem pure_law_walked (ds : List D) (x : XS) (R : Rt → Prop) (h : SP_law_walked ds x R) : W_law_walked (endsOf R x) (startE 7 ds) := by
  obtain ⟨c, rfl, hn, hl, q⟩ := h
  obtain ⟨gn, _⟩ := bst_gb c c.length (Nat.le_refl _)
  have tot := bst_tot c c.length (Nat.le_refl _)
  rw [blk_all hn] at gn tot
  obtain ⟨gL, _⟩ := sorL_gb gn
  have hL : (sorL (blk c)).Perm (blk c) := List.mergeSort_perm _ _
  have tL : (sorL (blk c)).flatten.length = c.length := by rw [hL.flatten.length_eq, tot]
  have sim := fun (i : Nat) (p : Pc) hp W hs => simu_step (L := sorL (blk c)) hn hL (i := i) (p := p) hp (W := W) hs
  generalize sorL (blk c) = L at gL tL hL sim ⊢
  simp only [W_law_walked, wVar, wOwn, wC, wOp, onBl, wtOn, wChain, trD, wtVal, wtNot, wAnd, wOr, wAndV, wOrV, wNotV, wIf, wNil, wCons, wTup, wLst, wUn, wNew, gAdd, gInt, gInt0, gMul, gCatF, gRepF, wOpF, gEq, gCmp, gInS, gIsN, isN, gIsB, gIdx, woNone, woSome, gSl, wSl, gSlF, wSlF, wB, wBF, gLen, gInt1, gInt2, gToInt, gListF, tyName, gIsT, wIsT, wCall, Rt.d, Cn.d, onNew, wCallF, wCallN, wCallNF, nlR, wgName, wgNil, wgCons, wgTup, wSeq, wSeqT, wSigns, wRng1, wRng2, wRng3, wRev, wEnum, wZip, wLc, wtYes, wsNil, wsBrk, wsCnt, wsExpr, wsRet, wsRetF, wsRetOwn, wsRetN, wIfS, wsSet, wsSetF, wsAsg, wsPar, wsAug, gApp, gExt, gPop0, gRev, wMut, wsSetIx, wFor, wsRaise, wSeqS, wFrz, wsCallM, wsPopAdd, endsOf, endM, endsM, startM, startE, wipeE, smallI, CPow, Br_true, Br_false, Br_not, rngD_eq, dC, dP, dI, ex_atI_map, atI0, atI1, atI2, kit1, kit2, kit3, kit4, kit5, kit6, kit7, kit8, kit9, kit10, kit11, kit12, kit13, kit14, kit15, kit16, kit17, kit18, kit19, kit20, kit21, kit22, kit23, kit24, kit25, kit26, kit27, kit28, kit29, kit30, kit31, kit32, kit33, kit34, kit35, sizeLine_eq, true_and, and_true, exists_eq_left', Option.some.injEq, List.map_cons, List.map_nil, List.length_cons, List.length_nil, List.length_map, List.length_append, List.cons_append, List.nil_append, List.set_cons_zero, List.set_cons_succ, List.getElem?_cons_zero, List.getElem?_cons_succ, List.getElem?_nil, Nat.reduceSub, Nat.reduceAdd, Nat.zero_add, Nat.sub_self, List.replicate_succ, List.replicate_zero, Bool.false_bne, Bool.true_bne, Bool.false_xor, Bool.true_xor, Bool.not_true, Bool.not_false, Bool.not_not, beq_self_eq_true, Bool.and_true, Bool.true_and, nl, nls, decide_true, decide_false, exists_eq_left, Bool.false_eq_true, Option.some_inj, Int.reduceToNat, Int.reducePow, Int.reduceMul, Int.reduceSub, Int.reduceAdd, Int.reduceNeg, Nat.reducePow, Nat.reduceLeDiff, Int.reduceLE, Int.reduceLT, Int.reduceAbs, Int.natAbs_neg, Nat.reduceLT, divW_eq, mulW_eq, Bool.or_true, Bool.true_or, cut_map, ← List.map_append, ← List.map_reverse, castN, eq_self, Int.reduceEq, deqC, deq_self, rep_map, nls_dP, wsAugIx, tx_cps, tx_len, tx_app, tx_one, tx_nil, tx_cut, tx_signs, tx_rep, lit_empty, tx_inj, wJoin, gJoin, wmCall, wmOpL, wmOpR, wmIxR, wmTup2, wsSetM, wsAppM, wForM, gSum, gAny, gAll, gLtD, gInT, gSorted, gAddT, wThaw, gMaxL, wIsE, wIsV, wCallE, wTry, DEnds.off, gInB, wDct0, wCntB, wIdxB, wTryF, wIdxS, gInX, wGetDI, wsSetKeyI, gInDI, dctOf, gIns, gTup, wDct1, gEqR, wsSetG, wgd0, wgdC, wLck, wDctL, wGetD, dctOf, wsSetKey, wItems, wSortI, wsCallMD, endsMD, endMD, startMD, wFld, wsSetFld, wsAddFld, isO_rfl, wMeth, wMethF, wMethN, wmMeth, wsExprM, wsRetM, wmOne, wmCons, wMake, wmMake, wsSetMk, gToIntS, endsO, endO, startO, List.getElem?_cons_succ, wsSetV]
  rw [numbered_L]
  refine loop_ind (S := Nm × Sl × Sl × Sl) (fun p : Nat × List Int => D.tup [.int (p.1 : Nat), .lst (p.2.map .int)]) (fun s => [.fz (.lst (L.map fun is => .lst (is.map .int))), .fz (.int c.length), .own false (.dct (kI s.1) (xI s.1)), .un, s.2.1, s.2.2.1, s.2.2.2])
    (fun r s => ∃ d, zL L = d ++ r ∧ s.1 = mkZ d) ?_ ?_ _ ([], .un, .un, .un) ⟨[], rfl, rfl⟩
  · rintro ⟨m, s4, s5, s6⟩ ⟨d, h1, h2⟩
    simp only [List.append_nil] at h1 h2
    subst h1 h2
    exact walk_p2 rfl hl gL.ne (fun k m b h1 h2 => walk_dct gL h1 h2) sim q
  · rintro ⟨j, b⟩ r ⟨m, s4, s5, s6⟩ K ⟨d, h1, h2⟩ ih
    simp only at h2
    subst h2
    walk_at "s"
    have hall : (mkZ (zL L)).map (·.1) = L.flatten := by rw [mkZ_fst, zL_snd]
    have nd : ((mkZ (zL L)).map (·.1)).Nodup := by rw [hall]; exact gb_nodup gL
    have lenZ : (mkZ (zL L)).length = c.length := by rw [← List.length_map (f := (·.1)), hall, tL]
    have ez : mkZ (zL L) = mkZ d ++ ((b.map fun k => (k, (j : Int))) ++ mkZ r) := by
      rw [h1]
      unfold mkZ
      rw [List.flatMap_append]
      rfl
    refine loop_ind (S := Nm × Sl) D.int (fun s => [.fz (.lst (L.map fun is => .lst (is.map .int))), .fz (.int c.length), .own false (.dct (kI s.1) (xI s.1)), .un, s.2, .fz (.int (j : Nat)), .fz (.lst (b.map D.int))])
      (fun r' s => ∃ e, s.1 = (mkZ d ++ e.map fun k => (k, (j : Int))) ∧ b = e ++ r') ?_ ?_ _ (mkZ d, s4) ⟨[], by simp, rfl⟩
    · rintro ⟨m, s4⟩ ⟨e, h4, h3⟩
      simp only [List.append_nil] at h3 h4
      subst h3 h4
      refine ih (mkZ d ++ b.map fun k => (k, (j : Int)), s4, _, _) ⟨d ++ [(j, b)], by rw [h1]; simp, ?_⟩
      simp [mkZ]
    · rintro k r' ⟨m, s4⟩ K' ⟨e, h4, h3⟩ ih'
      simp only at h4
      subst h4
      have hno : k ∉ (mkZ d ++ e.map fun k => (k, (j : Int))).map (·.1) := by
        have e5 : (mkZ (zL L)).map (·.1) = (mkZ d ++ e.map fun k => (k, (j : Int))).map (·.1) ++ (k :: (r' ++ (mkZ r).map (·.1))) := by rw [ez, h3]; simp [Function.comp_def]
        rw [e5, List.nodup_append] at nd
        exact fun z => nd.2.2 _ z _ (.head _) rfl
      have hlen : (mkZ d ++ e.map fun k => (k, (j : Int))).length < c.length := by
        rw [← lenZ, ez, h3]
        simp
        try omega
      walk_at "s"
      rw [lkI_no hno]
      obtain ⟨p1, p2⟩ := putI (v := (j : Int)) hno
      rw [p1, p2]
      simp only [Option.isSome_none, Br_false]
      refine ⟨by unfold xI; rw [List.length_map]; show _ < 16777216; omega, ih' (_, _) ⟨e ++ [k], by simp, by rw [h3]; simp⟩⟩
--@ law_right
def SP_law_right : Spec := fun ds _ R => ∃ c : List Pc, ds = [dC c, .lst ((sorL (blk c)).map fun is => .lst (is.map .int))] ∧ nf c = [] ∧ c.length ≤ 100000 ∧ R (.val (.bl true))
theorem len_law_right (ds : List D) (x : XS) (R : Rt → Prop) (h : SP_law_right ds x R) : ds.length = ["_law_cord_here", "_law_found"].length := by
  obtain ⟨c, rfl, _⟩ := h; rfl
def W_law_right : WS :=
  (wSeqS (wIfS (wtNot (wtVal (wIsT "list" (wVar 1))))
  (wsRet (wC (.bl false)))
  wsNil)
  (wSeqS (wFor (wRng1 (wB gLen (wCons (wVar 1) wNil))) (wgName 2)
  (wSeqS (wIfS (wOr (wtNot (wtVal (wCall SP_law_numbers_right (wCons (wOp gIdx (wVar 1) (wVar 2)) (wCons (wB gLen (wCons (wVar 0) wNil)) wNil))))) (wtNot (wtVal (wCall SP_law_come_to_nought (wCons (wVar 0) (wCons (wOp gIdx (wVar 1) (wVar 2)) wNil))))))
  (wsRet (wC (.bl false)))
  wsNil)
  (wIfS (wAnd (wtOn (wOp (gCmp fun i j => decide (j < i)) (wVar 2) (wC (.int 0)))) (wtOn (wOp (gCmp fun i j => decide (i ≤ j)) (wOp gIdx (wOp gIdx (wVar 1) (wVar 2)) (wC (.int 0))) (wOp gIdx (wOp gIdx (wVar 1) (wOp (gInt0 fun i j => i - j) (wVar 2) (wC (.int 1)))) (wC (.int 0))))))
  (wsRet (wC (.bl false)))
  wsNil)))
  (wsRet (wCall SP_law_walked (wCons (wVar 1) (wCons (wB gLen (wCons (wVar 0) wNil)) wNil))))))
theorem mem_flat_len {L : List (List Int)} {b : List Int} (h : b ∈ L) : b.length ≤ L.flatten.length := by
  induction L with
  | nil => cases h
  | cons a L ih =>
    rw [List.flatten_cons, List.length_append]
    rcases List.mem_cons.mp h with rfl | h
    · omega
    · have := ih h; omega
theorem pure_law_right (ds : List D) (x : XS) (R : Rt → Prop) (h : SP_law_right ds x R) : W_law_right (endsOf R x) (startE 3 ds) := by
  obtain ⟨c, rfl, hn, hl, q⟩ := h
  obtain ⟨gn, ib⟩ := bst_gb c c.length (Nat.le_refl _)
  have tot := bst_tot c c.length (Nat.le_refl _)
  rw [blk_all hn] at gn tot
  obtain ⟨gL, hup⟩ := sorL_gb gn
  have hL : (sorL (blk c)).Perm (blk c) := List.mergeSort_perm _ _
  have tL : (sorL (blk c)).flatten.length = c.length := by rw [hL.flatten.length_eq, tot]
  have lL : (sorL (blk c)).length ≤ c.length := by rw [hL.length_eq]; exact (bst_len c c.length).2.1
  have dn : ∀ b ∈ sorL (blk c), (∃ n, ∀ k ∈ b, nlc c k = n) ∧ (b.map (tnc c)).sum = 0 := fun b hb => ib.dn b (hL.mem_iff.mp hb)
  have qw : SP_law_walked [.lst ((sorL (blk c)).map fun is => .lst (is.map .int)), .int c.length] x R := ⟨c, rfl, hn, hl, q⟩
  generalize sorL (blk c) = L at gL hup tL lL dn qw ⊢
  simp only [W_law_right, wVar, wOwn, wC, wOp, onBl, wtOn, wChain, trD, wtVal, wtNot, wAnd, wOr, wAndV, wOrV, wNotV, wIf, wNil, wCons, wTup, wLst, wUn, wNew, gAdd, gInt, gInt0, gMul, gCatF, gRepF, wOpF, gEq, gCmp, gInS, gIsN, isN, gIsB, gIdx, woNone, woSome, gSl, wSl, gSlF, wSlF, wB, wBF, gLen, gInt1, gInt2, gToInt, gListF, tyName, gIsT, wIsT, wCall, Rt.d, Cn.d, onNew, wCallF, wCallN, wCallNF, nlR, wgName, wgNil, wgCons, wgTup, wSeq, wSeqT, wSigns, wRng1, wRng2, wRng3, wRev, wEnum, wZip, wLc, wtYes, wsNil, wsBrk, wsCnt, wsExpr, wsRet, wsRetF, wsRetOwn, wsRetN, wIfS, wsSet, wsSetF, wsAsg, wsPar, wsAug, gApp, gExt, gPop0, gRev, wMut, wsSetIx, wFor, wsRaise, wSeqS, wFrz, wsCallM, wsPopAdd, endsOf, endM, endsM, startM, startE, wipeE, smallI, CPow, Br_true, Br_false, Br_not, rngD_eq, dC, dP, dI, ex_atI_map, atI0, atI1, atI2, kit1, kit2, kit3, kit4, kit5, kit6, kit7, kit8, kit9, kit10, kit11, kit12, kit13, kit14, kit15, kit16, kit17, kit18, kit19, kit20, kit21, kit22, kit23, kit24, kit25, kit26, kit27, kit28, kit29, kit30, kit31, kit32, kit33, kit34, kit35, sizeLine_eq, true_and, and_true, exists_eq_left', Option.some.injEq, List.map_cons, List.map_nil, List.length_cons, List.length_nil, List.length_map, List.length_append, List.cons_append, List.nil_append, List.set_cons_zero, List.set_cons_succ, List.getElem?_cons_zero, List.getElem?_cons_succ, List.getElem?_nil, Nat.reduceSub, Nat.reduceAdd, Nat.zero_add, Nat.sub_self, List.replicate_succ, List.replicate_zero, Bool.false_bne, Bool.true_bne, Bool.false_xor, Bool.true_xor, Bool.not_true, Bool.not_false, Bool.not_not, beq_self_eq_true, Bool.and_true, Bool.true_and, nl, nls, decide_true, decide_false, exists_eq_left, Bool.false_eq_true, Option.some_inj, Int.reduceToNat, Int.reducePow, Int.reduceMul, Int.reduceSub, Int.reduceAdd, Int.reduceNeg, Nat.reducePow, Nat.reduceLeDiff, Int.reduceLE, Int.reduceLT, Int.reduceAbs, Int.natAbs_neg, Nat.reduceLT, divW_eq, mulW_eq, Bool.or_true, Bool.true_or, cut_map, ← List.map_append, ← List.map_reverse, castN, eq_self, Int.reduceEq, deqC, deq_self, rep_map, nls_dP, wsAugIx, tx_cps, tx_len, tx_app, tx_one, tx_nil, tx_cut, tx_signs, tx_rep, lit_empty, tx_inj, wJoin, gJoin, wmCall, wmOpL, wmOpR, wmIxR, wmTup2, wsSetM, wsAppM, wForM, gSum, gAny, gAll, gLtD, gInT, gSorted, gAddT, wThaw, gMaxL, wIsE, wIsV, wCallE, wTry, DEnds.off, gInB, wDct0, wCntB, wIdxB, wTryF, wIdxS, gInX, wGetDI, wsSetKeyI, gInDI, dctOf, gIns, gTup, wDct1, gEqR, wsSetG, wgd0, wgdC, wLck, wDctL, wGetD, dctOf, wsSetKey, wItems, wSortI, wsCallMD, endsMD, endMD, startMD, wFld, wsSetFld, wsAddFld, isO_rfl, wMeth, wMethF, wMethN, wmMeth, wsExprM, wsRetM, wmOne, wmCons, wMake, wmMake, wsSetMk, gToIntS, endsO, endO, startO, List.getElem?_cons_succ, wsSetV]
  refine ⟨by omega, ?_⟩
  rw [Int.toNat_natCast]
  refine loop_ind (S := Sl) D.int (fun s => [.fz (.lst (c.map dP)), .fz (.lst (L.map fun is => .lst (is.map .int))), s]) (fun r _ => ∀ k ∈ r, 0 ≤ k ∧ k < L.length) ?_ ?_ _ .un (fun k hk => ?_)
  · rintro s _
    walk_at "s"
    exact qw
  · rintro k r s K h1 ih
    obtain ⟨k0, k1⟩ := h1 k (.head _)
    obtain ⟨j, rfl⟩ := Int.eq_ofNat_of_zero_le k0
    have hj : j < L.length := by omega
    have hz : atI L (j : Int) = some L[j] := atI_at rfl hj
    have hm : L[j] ∈ L := List.getElem_mem hj
    obtain ⟨⟨n, d1⟩, d2⟩ := dn _ hm
    have rg := gL.rg _ hm
    have ih : K [.fz (.lst (c.map dP)), .fz (.lst (L.map fun is => .lst (is.map .int))), .fz (.int j)] := ih _ fun k h => h1 k (.tail _ h)
    walk_at "s"
    refine ⟨_, hz, L[j], c.length, rfl, gL.ne _ hm, gL.up _ hm, by have := mem_flat_len hm; omega, rg, ?_⟩
    walk_at "s"
    refine ⟨_, hz, c, L[j], n, rfl, gL.ne _ hm, fun k hk => ⟨(rg k hk).1, (rg k hk).2, d1 k hk⟩, d2, ?_⟩
    walk_at "s"
    refine Br.d (fun hp => ?_) (fun _ => ih)
    have hj1 : j - 1 < L.length := by omega
    have hz1 : atI L ((j : Int) - 1) = some L[j - 1] := atI_at (by omega) hj1
    have h0 : ∀ b ∈ L, atI (b.map D.int) 0 = some (.int (hdZ b)) := fun b hb => by
      cases b with
      | nil => exact absurd rfl (gL.ne _ hb)
      | cons y b => rw [List.map_cons]; exact atI0
    have lt := hup (j - 1) j hj1 hj (by omega)
    refine ⟨.lst (L[j].map .int), by rw [atI_map, hz]; rfl, .int (hdZ L[j]), h0 _ hm, .lst (L[j - 1].map .int), by rw [atI_map, hz1]; rfl, .int (hdZ L[j - 1]), h0 _ (List.getElem_mem hj1), ?_⟩
    exact Br.f (s := ⟨⟩) (t := ⟨⟩) (by omega) ih
  · obtain ⟨i, hi, rfl⟩ := mem_rng hk
    omega
end NL

namespace NL
open PySem PySem.Spec L2
open PyProof.Rows hiding St
local macro_rules | `(tactic| walk_at "s") => `(tactic| try simp only [wVar, wOwn, wC, wOp, onBl, wtOn, wChain, trD, wtVal, wtNot, wAnd, wOr, wAndV, wOrV, wNotV, wIf, wNil, wCons, wTup, wLst, wUn, wNew, gAdd, gInt, gInt0, gMul, gCatF, gRepF, wOpF, gEq, gCmp, gInS, gIsN, isN, gIsB, gIdx, woNone, woSome, gSl, wSl, gSlF, wSlF, wB, wBF, gLen, gInt1, gInt2, gToInt, gListF, tyName, gIsT, wIsT, wCall, Rt.d, Cn.d, onNew, wCallF, wCallN, wCallNF, nlR, wgName, wgNil, wgCons, wgTup, wSeq, wSeqT, wSigns, wRng1, wRng2, wRng3, wRev, wEnum, wZip, wLc, wtYes, wsNil, wsBrk, wsCnt, wsExpr, wsRet, wsRetF, wsRetOwn, wsRetN, wIfS, wsSet, wsSetF, wsAsg, wsPar, wsAug, gApp, gExt, gPop0, gRev, wMut, wsSetIx, wFor, wsRaise, wSeqS, wFrz, wsCallM, wsPopAdd, endsOf, endM, endsM, startM, startE, wipeE, smallI, CPow, Br_true, Br_false, Br_not, rngD_eq, dC, dP, dI, ex_atI_map, atI0, atI1, atI2, kit1, kit2, kit3, kit4, kit5, kit6, kit7, kit8, kit9, kit10, kit11, kit12, kit13, kit14, kit15, kit16, kit17, kit18, kit19, kit20, kit21, kit22, kit23, kit24, kit25, kit26, kit27, kit28, kit29, kit30, kit31, kit32, kit33, kit34, kit35, sizeLine_eq, true_and, and_true, exists_eq_left', Option.some.injEq, List.map_cons, List.map_nil, List.length_cons, List.length_nil, List.length_map, List.length_append, List.cons_append, List.nil_append, List.set_cons_zero, List.set_cons_succ, List.getElem?_cons_zero, List.getElem?_cons_succ, List.getElem?_nil, Nat.reduceSub, Nat.reduceAdd, Nat.zero_add, Nat.sub_self, List.replicate_succ, List.replicate_zero, Bool.false_bne, Bool.true_bne, Bool.false_xor, Bool.true_xor, Bool.not_true, Bool.not_false, Bool.not_not, beq_self_eq_true, Bool.and_true, Bool.true_and, nl, nls, decide_true, decide_false, exists_eq_left, Bool.false_eq_true, Option.some_inj, Int.reduceToNat, Int.reducePow, Int.reduceMul, Int.reduceSub, Int.reduceAdd, Int.reduceNeg, Nat.reducePow, Nat.reduceLeDiff, Int.reduceLE, Int.reduceLT, Int.reduceAbs, Int.natAbs_neg, Nat.reduceLT, divW_eq, mulW_eq, Bool.or_true, Bool.true_or, cut_map, ← List.map_append, ← List.map_reverse, castN, eq_self, Int.reduceEq, deqC, deq_self, rep_map, nls_dP, wsAugIx, tx_cps, tx_len, tx_app, tx_one, tx_nil, tx_cut, tx_signs, tx_rep, lit_empty, tx_inj, wJoin, gJoin, wmCall, wmOpL, wmOpR, wmIxR, wmTup2, wsSetM, wsAppM, wForM, gSum, gAny, gAll, gLtD, gInT, gSorted, gAddT, wThaw, gMaxL, wIsE, wIsV, wCallE, wTry, DEnds.off, gInB, wDct0, wCntB, wIdxB, wTryF, wIdxS, gInX, wGetDI, wsSetKeyI, gInDI, dctOf, gIns, gTup, wDct1, gEqR, wsSetG, wgd0, wgdC, wLck, wDctL, wGetD, dctOf, wsSetKey, wItems, wSortI, wsCallMD, endsMD, endMD, startMD, wFld, wsSetFld, wsAddFld, isO_rfl, wMeth, wMethF, wMethN, wmMeth, wsExprM, wsRetM, wmOne, wmCons, wMake, wmMake, wsSetMk, gToIntS, endsO, endO, startO, List.getElem?_cons_succ, wsSetV])
--@ law
def oS : Option D → Sl
  | none => .un
  | some d => .fz d
theorem oS_no (o : Option D) (c : Cn) : oS o ≠ .own true c := by cases o <;> exact fun z => by cases z
def W_law_3_2 : WS :=
  (wIfS (wAnd (wtOn (wOp (gEq false) (wOp (gInt (fun _ j => 0 < j) fun i j => i % j) (wVar 3) (wC (.int 3))) (wC (.int 0)))) (wtOn (wOp (gCmp fun i j => decide (i < j)) (wVar 7) (wB gLen (wCons (wVar 2) wNil)))))
  (wSeqS (wsSet 9 (wOp gIdx (wOp gIdx (wVar 2) (wVar 7)) (wC (.int 0))))
  (wSeqS (wsSet 10 (wOp (gInt0 fun i j => i - j) (wOp (gInt (fun _ j => 0 < j) fun i j => i % j) (wOp (gInt CDivW fun i j => i / j) (wVar 3) (wC (.int 5))) (wOp gMul (wC (.int 2)) (wOp (gInt CPow fun i j => i ^ j.toNat) (wC (.int 10)) (wC (.int 30))))) (wOp (gInt CPow fun i j => i ^ j.toNat) (wC (.int 10)) (wC (.int 30)))))
  (wSeqS (wsSet 11 (wNew (wLst (wCons (wTup (wCons (wVar 9) (wCons (wVar 10) wNil))) (wCons (wTup (wCons (wVar 9) (wCons (wOp (gInt0 fun i j => i - j) (wOp gIdx (wOp gIdx (wVar 2) (wVar 7)) (wC (.int 1))) (wVar 10)) wNil))) wNil)))))
  (wsSet 2 (wOp gAdd (wOp gAdd (wSl (wVar 2) woNone (woSome (wVar 7))) (wVar 11)) (wSl (wVar 2) (woSome (wOp gAdd (wVar 7) (wC (.int 1)))) woNone))))))
  (wIfS (wtOn (wOp (gEq false) (wOp (gInt (fun _ j => 0 < j) fun i j => i % j) (wVar 3) (wC (.int 3))) (wC (.int 1))))
  (wSeqS (wsSet 8 (wOp gAdd (wVar 8) (wCall SP_law_contrary (wCons (wVar 8) wNil))))
  (wsSet 2 (wOp gAdd (wOp gAdd (wSl (wVar 2) woNone (woSome (wVar 7))) (wVar 8)) (wSl (wVar 2) (woSome (wVar 7)) woNone))))
  (wsSet 2 (wOp gAdd (wOp gAdd (wSl (wVar 2) woNone (woSome (wVar 7))) (wNew (wLst (wCons (wTup (wCons (wOp gIdx (wC (.str "abcdefghijklmnopqrstuvwxyz")) (wOp (gInt (fun _ j => 0 < j) fun i j => i % j) (wOp (gInt CDivW fun i j => i / j) (wVar 3) (wC (.int 11))) (wC (.int 26)))) (wCons (wC (.int 0)) wNil))) wNil)))) (wSl (wVar 2) (woSome (wVar 7)) woNone)))))
def W_law_4 : WS :=
  (wSeqS (wsSet 4 (wNew (wBF gListF (wCons (wVar 2) wNil))))
  (wFound 5 6 SPN_blocks_of (wCons (wVar 4) wNil) (wOr (wtNot (wtVal (wCall SP_law_right (wCons (wVar 2) (wCons (wVar 5) wNil))))) (wtOn (wOp (gEq true) (wVar 4) (wVar 2))))
  (wsRet (wAndV (wCall SP_law_right (wCons (wVar 2) (wCons (wCall SP_blocks_of (wCons (wVar 4) wNil)) wNil))) (wOp (gEq false) (wCall SP_blocks_of (wCons (wNew (wLst wNil)) wNil)) (wNew (wLst wNil)))))))
def W_law_2 : WS :=
  (wSeqS (wsSet 2 (wOp gAdd (wVar 1) (wCall SP_law_contrary (wCons (wVar 1) wNil))))
  (wSeqS (wFor (wSeq (wSl (wVar 0) woNone (woSome (wC (.int 20))))) (wgName 3)
  (wSeqS (wsSet 7 (wOp (gInt (fun _ j => 0 < j) fun i j => i % j) (wOp (gInt CDivW fun i j => i / j) (wVar 3) (wC (.int 3))) (wOp gAdd (wB gLen (wCons (wVar 2) wNil)) (wC (.int 1)))))
  (wSeqS (wsSet 8 (wSl (wCall SP_law_pieces (wCons (wOp (gInt CDivW fun i j => i / j) (wVar 3) (wC (.int 7))) wNil)) woNone (woSome (wC (.int 2)))))
  W_law_3_2)))
  W_law_4))
def W_law : WS :=
  (wSeqS (wsSet 1 (wCall SP_law_cord (wCons (wVar 0) (wCons (wC (.int 0)) (wCons (wC (.int 63)) (wCons (wC (.int 60)) wNil))))))
  (wSeqS (wIfS (wtOn (wOp (gEq false) (wOp (gInt (fun _ j => 0 < j) fun i j => i % j) (wCall SP_law_at (wCons (wVar 0) (wCons (wC (.int 0)) wNil))) (wC (.int 3))) (wC (.int 1))))
  (wSeqS (wsSetF 1 (wLc (wSeq (wVar 1)) (wgTup 2 (wgCons (wgName 9) (wgCons (wgName 10) wgNil))) wtYes (wTup (wCons (wC (.str "q")) (wCons (wVar 10) wNil))) [9, 10]))
  (wFrz 1 wsNil))
  wsNil)
  W_law_2))
theorem OkC.con' {c : List Pc} (h : OkC c) : OkC (con c) := fun p hp => by
  obtain ⟨p', hp', rfl⟩ := List.mem_map.mp hp
  exact h p' (List.mem_reverse.mp hp')
theorem nf_insert {c u : List Pc} (a : Nat) (h : nf c = []) (e : Eqv u []) : nf (c.take a ++ u ++ c.drop a) = [] := by
  rw [nf_mid (c.take a) (c.drop a) e, List.append_nil, List.take_append_drop, h]
theorem law_p32 {q : DEnds} {ns : List Int} {half : D} {c u : List Pc} {cell a : Int} {s4 s5 s6 : Sl} {o9 o10 o11 : Option D} (hn : nf c = []) (hl : c.length ≤ 1000) (hu : u.length ≤ 2) (a0 : 0 ≤ a) (a1 : a ≤ c.length)
    (oc : OkC c) (ou : OkC u) (h : ∀ (d : List Pc) (o8 o9 o10 o11 : Option D), nf d = [] → OkC d → d.length ≤ c.length + 4 → q.nx [.fz (.scr ns), .fz half, .fz (.lst (d.map dP)), .fz (.int cell), s4, s5, s6, .fz (.int a), oS o8, oS o9, oS o10, oS o11]) :
    W_law_3_2 q [.fz (.scr ns), .fz half, .fz (.lst (c.map dP)), .fz (.int cell), s4, s5, s6, .fz (.int a), .fz (.lst (u.map dP)), oS o9, oS o10, oS o11] := by
  simp only [W_law_3_2, wVar, wOwn, wC, wOp, onBl, wtOn, wChain, trD, wtVal, wtNot, wAnd, wOr, wAndV, wOrV, wNotV, wIf, wNil, wCons, wTup, wLst, wUn, wNew, gAdd, gInt, gInt0, gMul, gCatF, gRepF, wOpF, gEq, gCmp, gInS, gIsN, isN, gIsB, gIdx, woNone, woSome, gSl, wSl, gSlF, wSlF, wB, wBF, gLen, gInt1, gInt2, gToInt, gListF, tyName, gIsT, wIsT, wCall, Rt.d, Cn.d, onNew, wCallF, wCallN, wCallNF, nlR, wgName, wgNil, wgCons, wgTup, wSeq, wSeqT, wSigns, wRng1, wRng2, wRng3, wRev, wEnum, wZip, wLc, wtYes, wsNil, wsBrk, wsCnt, wsExpr, wsRet, wsRetF, wsRetOwn, wsRetN, wIfS, wsSet, wsSetF, wsAsg, wsPar, wsAug, gApp, gExt, gPop0, gRev, wMut, wsSetIx, wFor, wsRaise, wSeqS, wFrz, wsCallM, wsPopAdd, endsOf, endM, endsM, startM, startE, wipeE, smallI, CPow, Br_true, Br_false, Br_not, rngD_eq, dC, dP, dI, ex_atI_map, atI0, atI1, atI2, kit1, kit2, kit3, kit4, kit5, kit6, kit7, kit8, kit9, kit10, kit11, kit12, kit13, kit14, kit15, kit16, kit17, kit18, kit19, kit20, kit21, kit22, kit23, kit24, kit25, kit26, kit27, kit28, kit29, kit30, kit31, kit32, kit33, kit34, kit35, sizeLine_eq, true_and, and_true, exists_eq_left', Option.some.injEq, List.map_cons, List.map_nil, List.length_cons, List.length_nil, List.length_map, List.length_append, List.cons_append, List.nil_append, List.set_cons_zero, List.set_cons_succ, List.getElem?_cons_zero, List.getElem?_cons_succ, List.getElem?_nil, Nat.reduceSub, Nat.reduceAdd, Nat.zero_add, Nat.sub_self, List.replicate_succ, List.replicate_zero, Bool.false_bne, Bool.true_bne, Bool.false_xor, Bool.true_xor, Bool.not_true, Bool.not_false, Bool.not_not, beq_self_eq_true, Bool.and_true, Bool.true_and, nl, nls, decide_true, decide_false, exists_eq_left, Bool.false_eq_true, Option.some_inj, Int.reduceToNat, Int.reducePow, Int.reduceMul, Int.reduceSub, Int.reduceAdd, Int.reduceNeg, Nat.reducePow, Nat.reduceLeDiff, Int.reduceLE, Int.reduceLT, Int.reduceAbs, Int.natAbs_neg, Nat.reduceLT, divW_eq, mulW_eq, Bool.or_true, Bool.true_or, cut_map, ← List.map_append, ← List.map_reverse, castN, eq_self, Int.reduceEq, deqC, deq_self, rep_map, nls_dP, wsAugIx, tx_cps, tx_len, tx_app, tx_one, tx_nil, tx_cut, tx_signs, tx_rep, lit_empty, tx_inj, wJoin, gJoin, wmCall, wmOpL, wmOpR, wmIxR, wmTup2, wsSetM, wsAppM, wForM, gSum, gAny, gAll, gLtD, gInT, gSorted, gAddT, wThaw, gMaxL, wIsE, wIsV, wCallE, wTry, DEnds.off, gInB, wDct0, wCntB, wIdxB, wTryF, wIdxS, gInX, wGetDI, wsSetKeyI, gInDI, dctOf, gIns, gTup, wDct1, gEqR, wsSetG, wgd0, wgdC, wLck, wDctL, wGetD, dctOf, wsSetKey, wItems, wSortI, wsCallMD, endsMD, endMD, startMD, wFld, wsSetFld, wsAddFld, isO_rfl, wMeth, wMethF, wMethN, wmMeth, wsExprM, wsRetM, wmOne, wmCons, wMake, wmMake, wsSetMk, gToIntS, endsO, endO, startO, List.getElem?_cons_succ, wsSetV]
  refine Br.d (fun h0 => Br.d (fun h1 => ?_) (fun h1 => ?_)) (fun h0 => ?_)
  · walk_at "s"
    have hi2 : a.toNat < c.length := by rw [List.length_map] at h1; omega
    have e1 := atI_at (xs := c) (i := a) (j := a.toNat) (by omega) hi2
    refine ⟨_, e1, ?_⟩
    walk_at "s"
    refine ⟨_, e1, ?_⟩
    walk_at "s"
    have es := split_at hi2
    have ef : (a + 1).toNat = a.toNat + 1 := by omega
    simp only [cut_to a0, cut_from (show 0 ≤ a + 1 by omega), ef, List.length_take, List.length_drop]
    refine ⟨by omega, by omega, ?_⟩
    generalize cell / 5 % 2000000000000000000000000000000 - 1000000000000000000000000000000 = t
    have := h (c.take a.toNat ++ [((c[a.toNat]).1, t), ((c[a.toNat]).1, (c[a.toNat]).2 - t)] ++ c.drop (a.toNat + 1)) (some (.lst (u.map dP))) (some (.str (c[a.toNat]).1)) (some (.int t))
      (some (.lst [.tup [.str (c[a.toNat]).1, .int t], .tup [.str (c[a.toNat]).1, .int ((c[a.toNat]).2 - t)]])) ?_ ?_ (by simp; omega)
    · rw [List.map_append, List.map_append] at this
      exact this
    · rw [es] at hn
      refine Eq.trans (nf_mid _ _ ?_) hn
      exact (eqv_part (n := (c[a.toNat]).1) (t := (c[a.toNat]).2) (a := t) (b := (c[a.toNat]).2 - t) (by omega)).symm
    · have on := oc _ (List.getElem_mem hi2)
      exact ((oc.sub fun p hp => List.mem_of_mem_take hp).app fun p hp => by
        simp only [List.mem_cons, List.not_mem_nil, or_false] at hp
        rcases hp with rfl | rfl <;> exact on).app (oc.sub fun p hp => List.mem_of_mem_drop hp)
  all_goals
    refine ⟨by omega, ?_⟩
    simp only [Bool.false_xor]
    refine Br.d (fun h2 => ?_) (fun h2 => ?_)
    · refine ⟨u, rfl, by omega, ?_⟩
      walk_at "s"
      have lc := con_len u
      simp only [cut_to a0, cut_from a0, List.length_take, List.length_drop]
      have := h (c.take a.toNat ++ (u ++ con u) ++ c.drop a.toNat) (some (.lst ((u ++ con u).map dP))) o9 o10 o11 (nf_insert _ hn (eqv_con u)) (((oc.sub fun p hp => List.mem_of_mem_take hp).app (ou.app ou.con')).app (oc.sub fun p hp => List.mem_of_mem_drop hp)) (by simp; omega)
      exact ⟨by omega, by omega, by omega, this⟩
    · obtain ⟨ch, e, e2, hch⟩ := lawSign_at (s := "abcdefghijklmnopqrstuvwxyz") (i := cell / 11 % 26) (by omega) (by rw [az_len]; omega) az_ok
      have z1 := az_sz
      have okch : PyData.strOk (tx [ch]) = true := by rw [e2]; exact hch.ok
      walk_at "s"
      simp only [cut_to a0, cut_from a0, List.length_take, List.length_drop]
      have := h (c.take a.toNat ++ [(tx [ch], 0)] ++ c.drop a.toNat) (some (.lst (u.map dP))) o9 o10 o11 (nf_insert _ hn eqv_zero.symm) (((oc.sub fun p hp => List.mem_of_mem_take hp).app fun p hp => by
        rw [List.mem_singleton] at hp
        subst hp
        exact okch).app (oc.sub fun p hp => List.mem_of_mem_drop hp)) (by simp; omega)
      rw [List.map_append, List.map_append] at this
      exact ⟨z1, ch, e, by omega, by omega, this⟩
theorem law_p4 {ns : List Int} {half : D} {c : List Pc} {o3 o7 o8 o9 o10 o11 : Option D} {x : XS} {R : Rt → Prop} (hn : nf c = []) (oc : OkC c) (hl : c.length ≤ 1000) (q : R (.val (.bl true))) :
    W_law_4 { nx := fun _ => R (.val .non), rt := fun r _ => R r, ex := x } [.fz (.scr ns), .fz half, .fz (.lst (c.map dP)), oS o3, .un, .un, .un, oS o7, oS o8, oS o9, oS o10, oS o11] := by
  have tot := bst_tot c c.length (Nat.le_refl _)
  rw [blk_all hn] at tot
  have hL : (sorL (blk c)).Perm (blk c) := List.mergeSort_perm _ _
  have tL : (sorL (blk c)).flatten.length = c.length := by rw [hL.flatten.length_eq, tot]
  have fin : blkD c = (sorL (blk c)).map fun is => .lst (is.map .int) :=
    (PySem.W.sort_maps (r := fun a b : List Int => dle (.lst (a.map .int)) (.lst (b.map .int))) (s := dle) (fun is : List Int => D.lst (is.map .int)) (l := blk c) fun _ _ _ _ => rfl).symm
  simp only [W_law_4, wVar, wOwn, wC, wOp, onBl, wtOn, wChain, trD, wtVal, wtNot, wAnd, wOr, wAndV, wOrV, wNotV, wIf, wNil, wCons, wTup, wLst, wUn, wNew, gAdd, gInt, gInt0, gMul, gCatF, gRepF, wOpF, gEq, gCmp, gInS, gIsN, isN, gIsB, gIdx, woNone, woSome, gSl, wSl, gSlF, wSlF, wB, wBF, gLen, gInt1, gInt2, gToInt, gListF, tyName, gIsT, wIsT, wCall, Rt.d, Cn.d, onNew, wCallF, wCallN, wCallNF, nlR, wgName, wgNil, wgCons, wgTup, wSeq, wSeqT, wSigns, wRng1, wRng2, wRng3, wRev, wEnum, wZip, wLc, wtYes, wsNil, wsBrk, wsCnt, wsExpr, wsRet, wsRetF, wsRetOwn, wsRetN, wIfS, wsSet, wsSetF, wsAsg, wsPar, wsAug, gApp, gExt, gPop0, gRev, wMut, wsSetIx, wFor, wsRaise, wSeqS, wFrz, wsCallM, wsPopAdd, endsOf, endM, endsM, startM, startE, wipeE, smallI, CPow, Br_true, Br_false, Br_not, rngD_eq, dC, dP, dI, ex_atI_map, atI0, atI1, atI2, kit1, kit2, kit3, kit4, kit5, kit6, kit7, kit8, kit9, kit10, kit11, kit12, kit13, kit14, kit15, kit16, kit17, kit18, kit19, kit20, kit21, kit22, kit23, kit24, kit25, kit26, kit27, kit28, kit29, kit30, kit31, kit32, kit33, kit34, kit35, sizeLine_eq, true_and, and_true, exists_eq_left', Option.some.injEq, List.map_cons, List.map_nil, List.length_cons, List.length_nil, List.length_map, List.length_append, List.cons_append, List.nil_append, List.set_cons_zero, List.set_cons_succ, List.getElem?_cons_zero, List.getElem?_cons_succ, List.getElem?_nil, Nat.reduceSub, Nat.reduceAdd, Nat.zero_add, Nat.sub_self, List.replicate_succ, List.replicate_zero, Bool.false_bne, Bool.true_bne, Bool.false_xor, Bool.true_xor, Bool.not_true, Bool.not_false, Bool.not_not, beq_self_eq_true, Bool.and_true, Bool.true_and, nl, nls, decide_true, decide_false, exists_eq_left, Bool.false_eq_true, Option.some_inj, Int.reduceToNat, Int.reducePow, Int.reduceMul, Int.reduceSub, Int.reduceAdd, Int.reduceNeg, Nat.reducePow, Nat.reduceLeDiff, Int.reduceLE, Int.reduceLT, Int.reduceAbs, Int.natAbs_neg, Nat.reduceLT, divW_eq, mulW_eq, Bool.or_true, Bool.true_or, cut_map, ← List.map_append, ← List.map_reverse, castN, eq_self, Int.reduceEq, deqC, deq_self, rep_map, nls_dP, wsAugIx, tx_cps, tx_len, tx_app, tx_one, tx_nil, tx_cut, tx_signs, tx_rep, lit_empty, tx_inj, wJoin, gJoin, wmCall, wmOpL, wmOpR, wmIxR, wmTup2, wsSetM, wsAppM, wForM, gSum, gAny, gAll, gLtD, gInT, gSorted, gAddT, wThaw, gMaxL, wIsE, wIsV, wCallE, wTry, DEnds.off, gInB, wDct0, wCntB, wIdxB, wTryF, wIdxS, gInX, wGetDI, wsSetKeyI, gInDI, dctOf, gIns, gTup, wDct1, gEqR, wsSetG, wgd0, wgdC, wLck, wDctL, wGetD, dctOf, wsSetKey, wItems, wSortI, wsCallMD, endsMD, endMD, startMD, wFld, wsSetFld, wsAddFld, isO_rfl, wMeth, wMethF, wMethN, wmMeth, wsExprM, wsRetM, wmOne, wmCons, wMake, wmMake, wsSetMk, gToIntS, endsO, endO, startO, List.getElem?_cons_succ, wsSetV]
  refine ⟨fun i c h => ?_, by simp, by simp, c, rfl, by omega, hn, fun b hb => ?_, ?_⟩
  · have h := List.mem_of_getElem? h
    simp only [List.mem_cons, List.not_mem_nil, or_false] at h
    rcases h with h | h | h | h | h | h | h | h | h | h | h | h <;> first | exact oS_no _ _ h.symm | cases h
  · have := mem_flat_len hb
    show _ < 16777216
    omega
  simp only [List.set_cons_zero, List.set_cons_succ]
  walk_at "s"
  refine ⟨c, rfl, hn, by omega, ?_⟩
  walk_at "s"
  refine ⟨⟨nbC oc, nbC oc⟩, c, rfl, by omega, fun z => absurd hn z, fun _ => ?_⟩
  walk_at "s"
  rw [fin]
  refine ⟨c, rfl, hn, by omega, ?_⟩
  walk_at "s"
  have b0 : blkD [] = [] := by unfold blkD sorD; exact List.mergeSort_nil
  refine ⟨[], rfl, by simp, fun z => absurd rfl z, fun _ => ?_⟩
  walk_at "s"
  rw [b0]
  refine ⟨⟨rfl, rfl⟩, ?_⟩
  rw [show deq (D.lst []) (D.lst []) = true from deq_self]
  exact q
theorem pure_law (ds : List D) (x : XS) (R : Rt → Prop) (h : SP_law ds x R) : W_law (endsOf R x) (startE 12 ds) := by
  obtain ⟨ns, rfl, hn, q⟩ := h
  simp only [W_law, wVar, wOwn, wC, wOp, onBl, wtOn, wChain, trD, wtVal, wtNot, wAnd, wOr, wAndV, wOrV, wNotV, wIf, wNil, wCons, wTup, wLst, wUn, wNew, gAdd, gInt, gInt0, gMul, gCatF, gRepF, wOpF, gEq, gCmp, gInS, gIsN, isN, gIsB, gIdx, woNone, woSome, gSl, wSl, gSlF, wSlF, wB, wBF, gLen, gInt1, gInt2, gToInt, gListF, tyName, gIsT, wIsT, wCall, Rt.d, Cn.d, onNew, wCallF, wCallN, wCallNF, nlR, wgName, wgNil, wgCons, wgTup, wSeq, wSeqT, wSigns, wRng1, wRng2, wRng3, wRev, wEnum, wZip, wLc, wtYes, wsNil, wsBrk, wsCnt, wsExpr, wsRet, wsRetF, wsRetOwn, wsRetN, wIfS, wsSet, wsSetF, wsAsg, wsPar, wsAug, gApp, gExt, gPop0, gRev, wMut, wsSetIx, wFor, wsRaise, wSeqS, wFrz, wsCallM, wsPopAdd, endsOf, endM, endsM, startM, startE, wipeE, smallI, CPow, Br_true, Br_false, Br_not, rngD_eq, dC, dP, dI, ex_atI_map, atI0, atI1, atI2, kit1, kit2, kit3, kit4, kit5, kit6, kit7, kit8, kit9, kit10, kit11, kit12, kit13, kit14, kit15, kit16, kit17, kit18, kit19, kit20, kit21, kit22, kit23, kit24, kit25, kit26, kit27, kit28, kit29, kit30, kit31, kit32, kit33, kit34, kit35, sizeLine_eq, true_and, and_true, exists_eq_left', Option.some.injEq, List.map_cons, List.map_nil, List.length_cons, List.length_nil, List.length_map, List.length_append, List.cons_append, List.nil_append, List.set_cons_zero, List.set_cons_succ, List.getElem?_cons_zero, List.getElem?_cons_succ, List.getElem?_nil, Nat.reduceSub, Nat.reduceAdd, Nat.zero_add, Nat.sub_self, List.replicate_succ, List.replicate_zero, Bool.false_bne, Bool.true_bne, Bool.false_xor, Bool.true_xor, Bool.not_true, Bool.not_false, Bool.not_not, beq_self_eq_true, Bool.and_true, Bool.true_and, nl, nls, decide_true, decide_false, exists_eq_left, Bool.false_eq_true, Option.some_inj, Int.reduceToNat, Int.reducePow, Int.reduceMul, Int.reduceSub, Int.reduceAdd, Int.reduceNeg, Nat.reducePow, Nat.reduceLeDiff, Int.reduceLE, Int.reduceLT, Int.reduceAbs, Int.natAbs_neg, Nat.reduceLT, divW_eq, mulW_eq, Bool.or_true, Bool.true_or, cut_map, ← List.map_append, ← List.map_reverse, castN, eq_self, Int.reduceEq, deqC, deq_self, rep_map, nls_dP, wsAugIx, tx_cps, tx_len, tx_app, tx_one, tx_nil, tx_cut, tx_signs, tx_rep, lit_empty, tx_inj, wJoin, gJoin, wmCall, wmOpL, wmOpR, wmIxR, wmTup2, wsSetM, wsAppM, wForM, gSum, gAny, gAll, gLtD, gInT, gSorted, gAddT, wThaw, gMaxL, wIsE, wIsV, wCallE, wTry, DEnds.off, gInB, wDct0, wCntB, wIdxB, wTryF, wIdxS, gInX, wGetDI, wsSetKeyI, gInDI, dctOf, gIns, gTup, wDct1, gEqR, wsSetG, wgd0, wgdC, wLck, wDctL, wGetD, dctOf, wsSetKey, wItems, wSortI, wsCallMD, endsMD, endMD, startMD, wFld, wsSetFld, wsAddFld, isO_rfl, wMeth, wMethF, wMethN, wmMeth, wsExprM, wsRetM, wmOne, wmCons, wMake, wmMake, wsSetMk, gToIntS, endsO, endO, startO, List.getElem?_cons_succ, wsSetV]
  refine ⟨ns, 0, 63, 60, rfl, hn, by omega, by omega, by omega, by omega, by omega, by omega, fun c hc gc => ?_⟩
  walk_at "s"
  refine ⟨ns, 0, rfl, by omega, ?_⟩
  walk_at "s"
  have go : ∀ (c : List Pc) (o9 o10 : Option D), c.length ≤ 60 → OkC c → W_law_2 { nx := fun _ => R (.val .non), rt := fun r _ => R r, ex := x } [.fz (.scr ns), .fz (.lst (c.map dP)), .un, .un, .un, .un, .un, .un, .un, oS o9, oS o10, .un] := by
    intro c o9 o10 hc oc
    simp only [W_law_2, wVar, wOwn, wC, wOp, onBl, wtOn, wChain, trD, wtVal, wtNot, wAnd, wOr, wAndV, wOrV, wNotV, wIf, wNil, wCons, wTup, wLst, wUn, wNew, gAdd, gInt, gInt0, gMul, gCatF, gRepF, wOpF, gEq, gCmp, gInS, gIsN, isN, gIsB, gIdx, woNone, woSome, gSl, wSl, gSlF, wSlF, wB, wBF, gLen, gInt1, gInt2, gToInt, gListF, tyName, gIsT, wIsT, wCall, Rt.d, Cn.d, onNew, wCallF, wCallN, wCallNF, nlR, wgName, wgNil, wgCons, wgTup, wSeq, wSeqT, wSigns, wRng1, wRng2, wRng3, wRev, wEnum, wZip, wLc, wtYes, wsNil, wsBrk, wsCnt, wsExpr, wsRet, wsRetF, wsRetOwn, wsRetN, wIfS, wsSet, wsSetF, wsAsg, wsPar, wsAug, gApp, gExt, gPop0, gRev, wMut, wsSetIx, wFor, wsRaise, wSeqS, wFrz, wsCallM, wsPopAdd, endsOf, endM, endsM, startM, startE, wipeE, smallI, CPow, Br_true, Br_false, Br_not, rngD_eq, dC, dP, dI, ex_atI_map, atI0, atI1, atI2, kit1, kit2, kit3, kit4, kit5, kit6, kit7, kit8, kit9, kit10, kit11, kit12, kit13, kit14, kit15, kit16, kit17, kit18, kit19, kit20, kit21, kit22, kit23, kit24, kit25, kit26, kit27, kit28, kit29, kit30, kit31, kit32, kit33, kit34, kit35, sizeLine_eq, true_and, and_true, exists_eq_left', Option.some.injEq, List.map_cons, List.map_nil, List.length_cons, List.length_nil, List.length_map, List.length_append, List.cons_append, List.nil_append, List.set_cons_zero, List.set_cons_succ, List.getElem?_cons_zero, List.getElem?_cons_succ, List.getElem?_nil, Nat.reduceSub, Nat.reduceAdd, Nat.zero_add, Nat.sub_self, List.replicate_succ, List.replicate_zero, Bool.false_bne, Bool.true_bne, Bool.false_xor, Bool.true_xor, Bool.not_true, Bool.not_false, Bool.not_not, beq_self_eq_true, Bool.and_true, Bool.true_and, nl, nls, decide_true, decide_false, exists_eq_left, Bool.false_eq_true, Option.some_inj, Int.reduceToNat, Int.reducePow, Int.reduceMul, Int.reduceSub, Int.reduceAdd, Int.reduceNeg, Nat.reducePow, Nat.reduceLeDiff, Int.reduceLE, Int.reduceLT, Int.reduceAbs, Int.natAbs_neg, Nat.reduceLT, divW_eq, mulW_eq, Bool.or_true, Bool.true_or, cut_map, ← List.map_append, ← List.map_reverse, castN, eq_self, Int.reduceEq, deqC, deq_self, rep_map, nls_dP, wsAugIx, tx_cps, tx_len, tx_app, tx_one, tx_nil, tx_cut, tx_signs, tx_rep, lit_empty, tx_inj, wJoin, gJoin, wmCall, wmOpL, wmOpR, wmIxR, wmTup2, wsSetM, wsAppM, wForM, gSum, gAny, gAll, gLtD, gInT, gSorted, gAddT, wThaw, gMaxL, wIsE, wIsV, wCallE, wTry, DEnds.off, gInB, wDct0, wCntB, wIdxB, wTryF, wIdxS, gInX, wGetDI, wsSetKeyI, gInDI, dctOf, gIns, gTup, wDct1, gEqR, wsSetG, wgd0, wgdC, wLck, wDctL, wGetD, dctOf, wsSetKey, wItems, wSortI, wsCallMD, endsMD, endMD, startMD, wFld, wsSetFld, wsAddFld, isO_rfl, wMeth, wMethF, wMethN, wmMeth, wsExprM, wsRetM, wmOne, wmCons, wMake, wmMake, wsSetMk, gToIntS, endsO, endO, startO, List.getElem?_cons_succ, wsSetV]
    refine ⟨c, rfl, by omega, ?_⟩
    walk_at "s"
    have lc := con_len c
    have hcut : (cut ns none (some 20)).length ≤ 20 := by
      rw [cut_to (by omega)]
      simp only [List.length_take]
      omega
    refine ⟨by omega, ?_⟩
    refine loop_ind (S := List Pc × Option D × Option D × Option D × Option D × Option D × Option D) D.int (fun s => [.fz (.scr ns), .fz (.lst (c.map dP)), .fz (.lst (s.1.map dP)), oS s.2.1, .un, .un, .un, oS s.2.2.1, oS s.2.2.2.1, oS s.2.2.2.2.1, oS s.2.2.2.2.2.1, oS s.2.2.2.2.2.2])
      (fun r s => nf s.1 = [] ∧ OkC s.1 ∧ s.1.length + 4 * r.length ≤ 200) ?_ ?_ _ (c ++ con c, none, none, none, o9, o10, none) ⟨nf_con c, oc.app oc.con', ?_⟩
    · rintro ⟨c, o3, o7, o8, o9, o10, o11⟩ ⟨h1, h3, h2⟩
      exact law_p4 h1 h3 (by simp only [List.length_nil] at h2; show c.length ≤ 1000; omega) q
    · rintro k r ⟨c, o3, o7, o8, o9, o10, o11⟩ K ⟨h1, h3, h2⟩ ih
      simp only at h1 h2
      have a0 : 0 ≤ k / 3 % ((c.length : Int) + 1) := Int.emod_nonneg _ (by omega)
      have a1 : k / 3 % ((c.length : Int) + 1) < (c.length : Int) + 1 := Int.emod_lt_of_pos _ (by omega)
      walk_at "s"
      refine ⟨by omega, k / 7, rfl, ?_⟩
      walk_at "s"
      rw [cut_to (by omega)]
      refine law_p32 (u := (lawPieces (k / 7)).take 2) h1 (by omega) (by rw [List.length_take]; omega) a0 (by omega) h3 ((lawPieces_gd _).ok.sub fun p hp => List.mem_of_mem_take hp) fun d o8 o9 o10 o11 g1 g2 g3 => ih (d, some (.int k), some (.int _), o8, o9, o10, o11) ⟨g1, g2, ?_⟩
      simp only [List.length_cons] at h2
      show d.length + 4 * r.length ≤ 200
      omega
    · simp only [List.length_append]
      omega
  refine Br.d (fun h => ?_) (fun h => go c none none (by omega) gc.ok)
  walk_at "s"
  refine compL_map dP (fun p => dP (tx [113], p.2)) (fun p Q' hq => ?_) _ [] (by show 0 + c.length ≤ _; unfold sizeLine; omega) ?_
  · obtain ⟨n, t⟩ := p
    walk_at "s"
    exact hq
  · have := go (c.map fun p => (tx [113], p.2)) none none (by rw [List.length_map]; omega) fun p hp => by
      obtain ⟨p', _, rfl⟩ := List.mem_map.mp hp
      show PyData.strOk (tx [113]) = true
      decide +kernel
    rw [List.map_map] at this
    exact this
end NL

namespace NL
open PySem PySem.Spec L2
open PyProof.Rows hiding St

def topS (i : Nat) : Stmt := PySem.Challenge.pw_nailhang_k05_blocks.main.body.getD i (.Pass ⟨0, 0, 0, 0⟩)
abbrev s_law_at : Stmt := topS 4
abbrev N_law_at : List Str := ["_law_script", "_law_k"]
theorem sc_law_at : FnScope N_law_at ["_law_script", "_law_k"] (defScope s_law_at) := ⟨rfl, rfl, rfl, by decide +kernel, rfl, by decide +kernel, by decide +kernel⟩
abbrev s_law_contrary : Stmt := topS 6
abbrev N_law_contrary : List Str := ["_law_cord_here", "_law_nail", "_law_turns"]
theorem sc_law_contrary : FnScope N_law_contrary ["_law_cord_here"] (defScope s_law_contrary) := ⟨rfl, rfl, rfl, by decide +kernel, rfl, by decide +kernel, by decide +kernel⟩
abbrev s_law_mix : Stmt := topS 5
abbrev N_law_mix : List Str := ["_law_cell", "_law_k", "_law_one"]
theorem sc_law_mix : FnScope N_law_mix ["_law_cell", "_law_k"] (defScope s_law_mix) := ⟨rfl, rfl, rfl, by decide +kernel, rfl, by decide +kernel, by decide +kernel⟩
abbrev s_law_pieces : Stmt := topS 7
abbrev N_law_pieces : List Str := ["_law_cell", "_law_rest", "_law_many", "_law_found", "_law_k", "_law_nail", "_law_value"]
theorem sc_law_pieces : FnScope N_law_pieces ["_law_cell"] (defScope s_law_pieces) := ⟨rfl, rfl, rfl, by decide +kernel, rfl, by decide +kernel, by decide +kernel⟩
abbrev s_law_cord : Stmt := topS 8
abbrev N_law_cord : List Str := ["_law_script", "_law_first", "_law_last", "_law_most", "_law_cord_here", "_law_cell", "_law_at_here", "_law_pieces_here"]
theorem sc_law_cord : FnScope N_law_cord ["_law_script", "_law_first", "_law_last", "_law_most"] (defScope s_law_cord) := ⟨rfl, rfl, rfl, by decide +kernel, rfl, by decide +kernel, by decide +kernel⟩
abbrev s_Open___init__ : Stmt := inClass (topS 1) 0
abbrev N_Open___init__ : List Str := ["self", "nail"]
theorem sc_Open___init__ : FnScope N_Open___init__ ["self", "nail"] (defScope s_Open___init__) := ⟨rfl, rfl, rfl, by decide +kernel, rfl, by decide +kernel, by decide +kernel⟩
abbrev s_Open_take : Stmt := inClass (topS 1) 1
abbrev N_Open_take : List Str := ["self", "place", "turns"]
theorem sc_Open_take : FnScope N_Open_take ["self", "place", "turns"] (defScope s_Open_take) := ⟨rfl, rfl, rfl, by decide +kernel, rfl, by decide +kernel, by decide +kernel⟩
abbrev s_blocks_of : Stmt := topS 2
abbrev N_blocks_of : List Str := ["cord", "waiting", "done", "place", "nail", "turns"]
theorem sc_blocks_of : FnScope N_blocks_of ["cord"] (defScope s_blocks_of) := ⟨rfl, rfl, rfl, by decide +kernel, rfl, by decide +kernel, by decide +kernel⟩
abbrev s_law_come_to_nought : Stmt := topS 10
abbrev N_law_come_to_nought : List Str := ["_law_cord_here", "_law_block", "_law_total", "_law_place"]
theorem sc_law_come_to_nought : FnScope N_law_come_to_nought ["_law_cord_here", "_law_block"] (defScope s_law_come_to_nought) := ⟨rfl, rfl, rfl, by decide +kernel, rfl, by decide +kernel, by decide +kernel⟩
abbrev s_law_numbers_right : Stmt := topS 9
abbrev N_law_numbers_right : List Str := ["_law_block", "_law_many", "_law_k"]
theorem sc_law_numbers_right : FnScope N_law_numbers_right ["_law_block", "_law_many"] (defScope s_law_numbers_right) := ⟨rfl, rfl, rfl, by decide +kernel, rfl, by decide +kernel, by decide +kernel⟩
abbrev s_law_walked : Stmt := topS 11
abbrev N_law_walked : List Str := ["_law_found", "_law_many", "_law_owner", "_law_waiting", "_law_place", "_law_number", "_law_block"]
theorem sc_law_walked : FnScope N_law_walked ["_law_found", "_law_many"] (defScope s_law_walked) := ⟨rfl, rfl, rfl, by decide +kernel, rfl, by decide +kernel, by decide +kernel⟩
abbrev s_law_right : Stmt := topS 12
abbrev N_law_right : List Str := ["_law_cord_here", "_law_found", "_law_k"]
theorem sc_law_right : FnScope N_law_right ["_law_cord_here", "_law_found"] (defScope s_law_right) := ⟨rfl, rfl, rfl, by decide +kernel, rfl, by decide +kernel, by decide +kernel⟩
abbrev s_law : Stmt := topS 13
abbrev N_law : List Str := ["_law_script", "_law_half", "_law_cord_here", "_law_cell", "_law_handed", "_law_found", "_law_block", "_law_at_here", "_law_pieces_here", "_law_nail", "_law_turns", "_law_pair"]
theorem sc_law : FnScope N_law ["_law_script"] (defScope s_law) := ⟨rfl, rfl, rfl, by decide +kernel, rfl, by decide +kernel, by decide +kernel⟩
structure Txt (K : PySem.W.Frag) (mg : Str → Option Value) (fa : Nat → Addr) (fd : Nat → FuncData) (ca : Nat → Addr) (cc : Str → Addr) (ti : Nat → Addr) : Prop where
  m_abs : mg "abs" = none
  m_bool : mg "bool" = none
  m_enumerate : mg "enumerate" = none
  m_int : mg "int" = none
  m_isinstance : mg "isinstance" = none
  m_len : mg "len" = none
  m_list : mg "list" = none
  m_range : mg "range" = none
  m_reversed : mg "reversed" = none
  m_sorted : mg "sorted" = none
  g_law_at : mg "_law_at" = some (.ref (fa 0))
  F_law_at : Fun K "_law_at" "_law_at" s_law_at (fa 0) (fd 0)
  b_law_at : Binds K (fd 0) ["_law_script", "_law_k"] []
  g_law_contrary : mg "_law_contrary" = some (.ref (fa 1))
  F_law_contrary : Fun K "_law_contrary" "_law_contrary" s_law_contrary (fa 1) (fd 1)
  b_law_contrary : Binds K (fd 1) ["_law_cord_here"] []
  g_law_mix : mg "_law_mix" = some (.ref (fa 2))
  F_law_mix : Fun K "_law_mix" "_law_mix" s_law_mix (fa 2) (fd 2)
  b_law_mix : Binds K (fd 2) ["_law_cell", "_law_k"] []
  g_law_pieces : mg "_law_pieces" = some (.ref (fa 3))
  F_law_pieces : Fun K "_law_pieces" "_law_pieces" s_law_pieces (fa 3) (fd 3)
  b_law_pieces : Binds K (fd 3) ["_law_cell"] []
  g_law_cord : mg "_law_cord" = some (.ref (fa 4))
  F_law_cord : Fun K "_law_cord" "_law_cord" s_law_cord (fa 4) (fd 4)
  b_law_cord : Binds K (fd 4) ["_law_script", "_law_first", "_law_last", "_law_most"] []
  mk_Open : Mk K (cc "Open") (fa 5)
  F_Open___init__ : Fun K "__init__" "Open.__init__" s_Open___init__ (fa 5) (fd 5)
  b_Open___init__ : Binds K (fd 5) ["self", "nail"] []
  M_Open_take : Meth K (cc "Open") "take" (fa 6)
  F_Open_take : Fun K "take" "Open.take" s_Open_take (fa 6) (fd 6)
  b_Open_take : Binds K (fd 6) ["self", "place", "turns"] []
  g_blocks_of : mg "blocks_of" = some (.ref (fa 7))
  F_blocks_of : Fun K "blocks_of" "blocks_of" s_blocks_of (fa 7) (fd 7)
  b_blocks_of : Binds K (fd 7) ["cord"] []
  g_law_come_to_nought : mg "_law_come_to_nought" = some (.ref (fa 8))
  F_law_come_to_nought : Fun K "_law_come_to_nought" "_law_come_to_nought" s_law_come_to_nought (fa 8) (fd 8)
  b_law_come_to_nought : Binds K (fd 8) ["_law_cord_here", "_law_block"] []
  g_law_numbers_right : mg "_law_numbers_right" = some (.ref (fa 9))
  F_law_numbers_right : Fun K "_law_numbers_right" "_law_numbers_right" s_law_numbers_right (fa 9) (fd 9)
  b_law_numbers_right : Binds K (fd 9) ["_law_block", "_law_many"] []
  g_law_walked : mg "_law_walked" = some (.ref (fa 10))
  F_law_walked : Fun K "_law_walked" "_law_walked" s_law_walked (fa 10) (fd 10)
  b_law_walked : Binds K (fd 10) ["_law_found", "_law_many"] []
  g_law_right : mg "_law_right" = some (.ref (fa 11))
  F_law_right : Fun K "_law_right" "_law_right" s_law_right (fa 11) (fd 11)
  b_law_right : Binds K (fd 11) ["_law_cord_here", "_law_found"] []
  g_law : mg "law" = some (.ref (fa 12))
  F_law : Fun K "law" "law" s_law (fa 12) (fd 12)
  b_law : Binds K (fd 12) ["_law_script"] []
  cl_Open : Cls K (cc "Open")
  mg_Open : mg "Open" = some (.ref (cc "Open"))
  na_Open_nail : NoAttr K (cc "Open") "nail"
  na_Open_turns : NoAttr K (cc "Open") "turns"
  na_Open_places : NoAttr K (cc "Open") "places"
section
variable {P : Program} {w : World} {K : PySem.W.Frag} {mg : Str → Option Value} {base : Heap} {fa : Nat → Addr} {fd : Nat → FuncData} {ca : Nat → Addr} {tb : List (Addr × Str)} {cc : Str → Addr} {ti : Nat → Addr}
theorem ok_law_at (T : Txt K mg fa fd ca cc ti) : FnOk P w K mg base (L2N.CX P w) 1 (fa 0) (fd 0) ["_law_script", "_law_k"] (@spOf ⟨K, tb, cc⟩ mg SP_law_at) := by
  letI : KC := ⟨K, tb, cc⟩
  have nd := sc_law_at.nd
  refine fn_ok T.F_law_at sc_law_at len_law_at (fun cdv A outer s H E hr xk => ⟨W_law_at, ?_, pure_law_at⟩)
  exact (sds_cons (sd_if (td_cmp dLt (bd (ed_var 1)) (bd (ed_callB cLen rfl T.m_len (by decide +kernel) (ab_cons (bd (ed_var 0)) ab_nil))))
  (sds_one (sd_ret (ed_ix (bd (ed_var 0)) (bd (ed_var 1)))))
  sds_nil)
  (sds_one (sd_ret ed_int)))
theorem ok_law_contrary (T : Txt K mg fa fd ca cc ti) : FnOk P w K mg base (L2N.CX P w) 1 (fa 1) (fd 1) ["_law_cord_here"] (@spOf ⟨K, tb, cc⟩ mg SP_law_contrary) := by
  letI : KC := ⟨K, tb, cc⟩
  have nd := sc_law_contrary.nd
  refine fn_ok T.F_law_contrary sc_law_contrary len_law_contrary (fun cdv A outer s H E hr xk => ⟨W_law_contrary, ?_, pure_law_contrary⟩)
  exact (sds_one (sd_retF (df_lc rfl nd (id_rev rfl T.m_reversed (ed_var 0)) (blkOk_by (own := [("_law_nail", 1), ("_law_turns", 2)]) (N := N_law_contrary) (sc := defScope s_law_contrary) (by decide +kernel)) (fun _ _ _ _ _ => (gd_tup rfl (gds_cons (gd_name 1 nd) (gds_cons (gd_name 2 nd) gds_nil)))) (fun _ _ _ _ _ => (ed_tup (ad_cons (ed_var 1) (ad_cons (ed_op dSub (bd ed_int) (bd (ed_var 2))) ad_nil)))))))
theorem ok_law_mix (T : Txt K mg fa fd ca cc ti) : FnOk P w K mg base (L2N.CX P w) 1 (fa 2) (fd 2) ["_law_cell", "_law_k"] (@spOf ⟨K, tb, cc⟩ mg SP_law_mix) := by
  letI : KC := ⟨K, tb, cc⟩
  have nd := sc_law_mix.nd
  refine fn_ok T.F_law_mix sc_law_mix len_law_mix (fun cdv A outer s H E hr xk => ⟨W_law_mix, ?_, pure_law_mix⟩)
  exact (sds_cons (sd_set 2 nd (ed_op dMod (bd (ed_op dAdd (bd (ed_op dAdd (bd (ed_op dMul (bd (ed_op dMod (bd (ed_var 0)) (bd (ed_op dPow (bd ed_int) (bd ed_int))))) (bd (ed_op dAdd (bd ed_int) (bd (ed_op dMul (bd ed_int) (bd (ed_var 1)))))))) (bd (ed_op dMul (bd ed_int) (bd (ed_var 1)))))) (bd ed_int))) (bd ed_int)))
  (sds_one (sd_ret (ed_op dMod (bd (ed_op dMul (bd (ed_var 2)) (bd (ed_op dAdd (bd (ed_op dAdd (bd (ed_op dDiv (bd (ed_var 2)) (bd ed_int))) (bd (ed_op dMul (bd ed_int) (bd (ed_var 1)))))) (bd ed_int))))) (bd ed_int)))))
theorem ok_law_pieces (T : Txt K mg fa fd ca cc ti) : FnOk P w K mg base (L2N.CX P w) 2 (fa 3) (fd 3) ["_law_cell"] (@spOf ⟨K, tb, cc⟩ mg SP_law_pieces) := by
  letI : KC := ⟨K, tb, cc⟩
  have nd := sc_law_pieces.nd
  refine fn_ok T.F_law_pieces sc_law_pieces len_law_pieces (fun cdv A outer s H E hr xk => ⟨W_law_pieces, ?_, pure_law_pieces⟩)
  exact (sds_cons (sd_set 1 nd (ed_op dDiv (bd (ed_var 0)) (bd ed_int)))
  (sds_cons (sd_if (td_cmp (dEq hr) (bd (ed_op dMod (bd (ed_var 0)) (bd ed_int))) (bd ed_int))
  (sds_cons (sd_set 5 nd (ed_ix (bd ed_str) (bd (ed_op dMod (bd (ed_var 1)) (bd ed_int)))))
  (sds_one (sd_retF (df_lst (ad_cons (ed_tup (ad_cons (ed_var 5) (ad_cons (ed_op dSub (bd (ed_op dMod (bd (ed_op dDiv (bd (ed_var 1)) (bd ed_int))) (bd (ed_op dSub (bd (ed_op dMul (bd ed_int) (bd (ed_op dPow (bd ed_int) (bd ed_int))))) (bd ed_int))))) (bd (ed_op dSub (bd (ed_op dPow (bd ed_int) (bd ed_int))) (bd ed_int)))) ad_nil))) ad_nil)))))
  sds_nil)
  (sds_cons (sd_set 2 nd (ed_op dMod (bd (ed_var 1)) (bd ed_int)))
  (sds_cons (sd_set 1 nd (ed_op dDiv (bd (ed_var 1)) (bd ed_int)))
  (sds_cons (sd_setF 3 nd (df_lst ad_nil))
  (sds_cons (sd_for xk rfl (id_range1 rfl T.m_range (ed_var 2)) (gd_name 4 nd)
  (sds_cons (sd_set 6 nd (ed_var 1))
  (sds_cons (sd_if (td_w (wd_or (td_cmp dLt (bd (ed_callB cAbs rfl T.m_abs (by decide +kernel) (ab_cons (bd (ed_var 0)) ab_nil))) (bd (ed_op dPow (bd ed_int) (bd ed_int)))) (wd_or1 (td_chain dLt dLt (bd (ed_un un_neg ed_int)) (bd (ed_var 1)) (bd ed_int)))))
  (sds_one (sd_set 6 nd (ed_call (ok_law_mix T) (hr.mono (by omega)) xk rfl T.g_law_mix T.F_law_mix.kp T.b_law_mix (ad_cons (ed_var 0) (ad_cons (ed_var 4) ad_nil)))))
  sds_nil)
  (sds_cons (sd_mut 3 mApp PySem.F.slot_list_append PySem.F.type_list_append (ad_cons (ed_tup (ad_cons (ed_ix (bd ed_str) (bd (ed_op dMod (bd (ed_var 6)) (bd ed_int)))) (ad_cons (ed_op dSub (bd (ed_op dMod (bd (ed_op dDiv (bd (ed_var 6)) (bd ed_int))) (bd ed_int))) (bd ed_int)) ad_nil))) ad_nil))
  (sds_one (sd_set 1 nd (ed_op dDiv (bd (ed_var 1)) (bd ed_int))))))))
  (sds_one (sd_retOwn 3))))))))
theorem ok_law_cord (T : Txt K mg fa fd ca cc ti) : FnOk P w K mg base (L2N.CX P w) 3 (fa 4) (fd 4) ["_law_script", "_law_first", "_law_last", "_law_most"] (@spOf ⟨K, tb, cc⟩ mg SP_law_cord) := by
  letI : KC := ⟨K, tb, cc⟩
  have nd := sc_law_cord.nd
  refine fn_ok T.F_law_cord sc_law_cord len_law_cord (fun cdv A outer s H E hr xk => ⟨W_law_cord, ?_, pure_law_cord⟩)
  exact (sds_cons (sd_set 4 nd (ed_new (df_lst ad_nil)))
  (sds_cons (sd_for xk rfl (id_list (ed_op dAdd (bd (ed_new (df_lst (ad_cons (ed_call (ok_law_at T) (hr.mono (by omega)) xk rfl T.g_law_at T.F_law_at.kp T.b_law_at (ad_cons (ed_var 0) (ad_cons (ed_var 1) ad_nil))) ad_nil)))) (bd (ed_sl (bd (ed_var 0)) (od_some (bd (ed_op dAdd (bd (ed_var 1)) (bd ed_int)))) (od_some (bd (ed_var 2))))))) (gd_name 5 nd)
  (sds_cons (sd_set 6 nd (ed_op dMod (bd (ed_op dDiv (bd (ed_var 5)) (bd ed_int))) (bd (ed_op dAdd (bd (ed_callB cLen rfl T.m_len (by decide +kernel) (ab_cons (bd (ed_var 4)) ab_nil))) (bd ed_int)))))
  (sds_cons (sd_if (td_cmp (dEq hr) (bd (ed_op dMod (bd (ed_var 5)) (bd ed_int))) (bd ed_int))
  (sds_one (sd_set 4 nd (ed_op dAdd (bd (ed_var 4)) (bd (ed_call (ok_law_contrary T) (hr.mono (by omega)) xk rfl T.g_law_contrary T.F_law_contrary.kp T.b_law_contrary (ad_cons (ed_sl (bd (ed_var 4)) (od_some (bd (ed_var 6))) od_none) ad_nil))))))
  (sds_one (sd_if (td_cmp (dEq hr) (bd (ed_op dMod (bd (ed_var 5)) (bd ed_int))) (bd ed_int))
  (sds_cons (sd_set 7 nd (ed_call (ok_law_pieces T) (hr.mono (by omega)) xk rfl T.g_law_pieces T.F_law_pieces.kp T.b_law_pieces (ad_cons (ed_op dDiv (bd (ed_var 5)) (bd ed_int)) ad_nil)))
  (sds_cons (sd_set 7 nd (ed_op dAdd (bd (ed_var 7)) (bd (ed_call (ok_law_contrary T) (hr.mono (by omega)) xk rfl T.g_law_contrary T.F_law_contrary.kp T.b_law_contrary (ad_cons (ed_var 7) ad_nil)))))
  (sds_one (sd_set 4 nd (ed_op dAdd (bd (ed_op dAdd (bd (ed_sl (bd (ed_var 4)) od_none (od_some (bd (ed_var 6))))) (bd (ed_var 7)))) (bd (ed_sl (bd (ed_var 4)) (od_some (bd (ed_var 6))) od_none)))))))
  (sds_one (sd_set 4 nd (ed_op dAdd (bd (ed_var 4)) (bd (ed_call (ok_law_pieces T) (hr.mono (by omega)) xk rfl T.g_law_pieces T.F_law_pieces.kp T.b_law_pieces (ad_cons (ed_var 5) ad_nil)))))))))
  (sds_one (sd_set 4 nd (ed_sl (bd (ed_var 4)) od_none (od_some (bd (ed_var 3)))))))))
  (sds_one (sd_ret (ed_var 4)))))
theorem ok_Open___init__ (T : Txt K mg fa fd ca cc ti) : FnOk P w K mg base (L2N.CX P w) 1 (fa 5) (fd 5) ["self", "nail"] (@spOfO ⟨K, tb, cc⟩ mg SP_Open___init__) := by
  letI : KC := ⟨K, tb, cc⟩
  have nd := sc_Open___init__.nd
  refine fn_okO T.F_Open___init__ sc_Open___init__ len_Open___init__ (fun cdv A outer s H E hr xk => ⟨W_Open___init__, ?_, pure_Open___init__⟩)
  exact (sds_cons (sd_addFld 0 "Open" [] "nail" T.cl_Open T.na_Open_nail (ed_var 1))
  (sds_cons (sd_addFld 0 "Open" ["nail"] "turns" T.cl_Open T.na_Open_turns ed_int)
  (sds_one (sd_addFld 0 "Open" ["nail", "turns"] "places" T.cl_Open T.na_Open_places (ed_new (df_lst ad_nil))))))

theorem hd_Open___init__ (T : Txt K mg fa fd ca cc ti) : FnOk P w K mg base (L2N.CX P w) 1 (fa 5) (fd 5) ["self", "nail"] (spOpenI (cc "Open")) := by
  letI : KC := ⟨K, [], cc⟩
  refine okN T.F_Open___init__ sc_Open___init__ (fun vs H Q E h => by obtain ⟨p, n, dx, rfl, _⟩ := h; rfl) (fun cdv A outer s H vs Q E hr h => ?_)
  obtain ⟨p, n, dx, rfl, hp, k⟩ := h
  refine ⟨_, pss_cons (ps_fld (pe_var (i := 0) rfl (by first | exact Or.inl rfl | exact Or.inr (Or.inl rfl) | exact Or.inr (Or.inr rfl))) (pe_var (i := 1) rfl (by first | exact Or.inl rfl | exact Or.inr (Or.inl rfl) | exact Or.inr (Or.inr rfl))) rfl)
    (pss_cons (ps_fld (pe_var (i := 0) rfl (by first | exact Or.inl rfl | exact Or.inr (Or.inl rfl) | exact Or.inr (Or.inr rfl))) pe_int rfl)
    (pss_one (ps_fld (pe_var (i := 0) rfl (by first | exact Or.inl rfl | exact Or.inr (Or.inl rfl) | exact Or.inr (Or.inr rfl))) (pe_lst pa_nil) rfl))), ?_⟩
  refine ⟨.str n, rfl, .ref p, rfl, p, _, dx, _, rfl, hp, T.cl_Open, T.na_Open_nail, by decide, ?_⟩
  refine ⟨.ref p, rfl, p, _, dx, _, rfl, upd_same, T.cl_Open, T.na_Open_turns, by show (1 : Nat) < 1000; decide, ?_⟩
  refine ⟨Nat.zero_le _, fun l hl => ?_⟩
  have nl : l ≠ p := fun z => by rw [z, upd_same] at hl; cases hl
  have hl0 : H l = none := by rw [upd_ne nl, upd_ne nl] at hl; exact hl
  refine ⟨.ref p, rfl, p, _, dx, _, rfl, by rw [upd_ne (fun z => nl z.symm), upd_same], T.cl_Open, T.na_Open_places, by simp only [putF, if_neg on1, List.length_cons, List.length_nil]; decide, ?_⟩
  have e : upd (upd (upd (upd H p (.ins (cc "Open") dx (putF "nail" (.str n) []))) p (.ins (cc "Open") dx (putF "turns" (.int 0) (putF "nail" (.str n) [])))) l (.lst [])) p (.ins (cc "Open") dx (putF "places" (.ref l) (putF "turns" (.int 0) (putF "nail" (.str n) [])))) =
      upd (upd H l (.lst [])) p (.ins (cc "Open") dx (opF n 0 l)) := by
    rw [opF_made]
    funext a
    by_cases z : a = p
    · rw [z, upd_same, upd_same]
    · rw [upd_ne z, upd_ne z]
      by_cases y : a = l
      · rw [y, upd_same, upd_same]
      · rw [upd_ne y, upd_ne y, upd_ne z, upd_ne z]
  show Q .non (upd _ p _)
  rw [e]
  exact k l hl0
theorem hd_Open_take (T : Txt K mg fa fd ca cc ti) : FnOk P w K mg base (L2N.CX P w) 1 (fa 6) (fd 6) ["self", "place", "turns"] (spTake (cc "Open")) := by
  letI : KC := ⟨K, [], cc⟩
  refine okN T.F_Open_take sc_Open_take (fun vs H Q E h => by obtain ⟨p, k, t, n, t0, l, dx, us, rfl, _⟩ := h; rfl) (fun cdv A outer s H vs Q E hr h => ?_)
  obtain ⟨p, k, t, n, t0, l, dx, us, rfl, hp, hl, hz, q⟩ := h
  refine ⟨_, pss_cons (ps_fldaug (pe_var (i := 0) rfl (by first | exact Or.inl rfl | exact Or.inr (Or.inl rfl) | exact Or.inr (Or.inr rfl))) (pe_var (i := 2) rfl (by first | exact Or.inl rfl | exact Or.inr (Or.inl rfl) | exact Or.inr (Or.inr rfl))) in_add)
    (pss_one (ps_expr (pe_bm PySem.F.plainAttrs_list PySem.F.slot_list_append PySem.F.type_list_append mt_append (pe_fld (pe_var (i := 0) rfl (by first | exact Or.inl rfl | exact Or.inr (Or.inl rfl) | exact Or.inr (Or.inr rfl))) rfl)
      (pa_cons (pe_var (i := 1) rfl (by first | exact Or.inl rfl | exact Or.inr (Or.inl rfl) | exact Or.inr (Or.inr rfl))) pa_nil rfl)))), ?_⟩
  have nl : l ≠ p := fun z => by rw [z, hp] at hl; cases hl
  refine ⟨.ref p, rfl, p, _, dx, _, .int t0, rfl, hp, T.cl_Open, T.na_Open_turns, opF_turns _ _ _, .int t, rfl, t0, t, rfl, rfl, dx, _, hp, by show (3 : Nat) < 1000; decide, ?_⟩
  rw [opF_put]
  refine ⟨.ref p, rfl, p, _, dx, _, .ref l, rfl, upd_same, T.cl_Open, T.na_Open_places, opF_places _ _ _, ?_⟩
  refine ⟨.inl ⟨rfl, us, .of (by rw [upd_ne nl]; exact hl)⟩, .int k, rfl, l, us, .int k, rfl, rfl, by rw [upd_ne nl]; exact hl, hz, ?_⟩
  exact q
theorem ok_blocks_of (T : Txt K mg fa fd ca cc ti) : FnOk P w K mg base (L2N.CX P w) 3 (fa 7) (fd 7) ["cord"] (@spOf ⟨K, tb, cc⟩ mg SP_blocks_of) := by
  letI : KC := ⟨K, tb, cc⟩
  have nd := sc_blocks_of.nd
  refine fn_ok T.F_blocks_of sc_blocks_of len_blocks_of (fun cdv A outer s H E hr xk => ⟨W_blocks_of, ?_, pure_blocks_of⟩)
  have hm : ∀ {X : Cx}, X.K = K → X.prog = P → X.w = w → X.mg = mg → X.base = base → Room 1 X.A → MC X "take" (cc "Open") (spTake (cc "Open")) := fun {X} e1 e2 e3 e4 e5 hr => by
    refine ⟨1, fa 6, fd 6, ["self", "place", "turns"], ?_, ?_, ?_, hr, ?_⟩
    · rw [e1]; exact T.cl_Open
    · rw [e1]; exact T.M_Open_take
    · rw [e1, e2, e3, e4, e5]; exact hd_Open_take T
    · rw [e1]; exact T.b_Open_take
  exact (sds_cons (sd_setF 1 nd (df_lst ad_nil))
  (sds_cons (sd_setF 2 nd (df_lst ad_nil))
  (sds_cons (sd_blk xk rfl (id_enum rfl T.m_enumerate (ed_var 0)) (gd_tup rfl (gds_cons (gd_name 3 nd) (gds_cons (gd_tup rfl (gds_cons (gd_name 4 nd) (gds_cons (gd_name 5 nd) gds_nil))) gds_nil)))
    (sbs_cons (sb_if (td_cmp (dEq hr) (bd (ed_var 5)) (bd ed_int)) (sbs_cons (sb_done (df_lst (ad_cons (ed_var 3) ad_nil))) (sbs_one sb_cont)) sbs_nil)
    (sbs_cons (sb_if (td_w (wd_or (td_cmp (dEq hr) (bd (ed_callB cLen rfl T.m_len (by decide +kernel) (ab_cons (bd_own 1) ab_nil))) (bd ed_int)) (wd_or1 (td_cmp (dNe hr) (bd (ed_fld "Open" ["nail", "turns", "places"] 0 T.cl_Open T.na_Open_nail (bd (ed_ix (bd_own 1) (bd (ed_un un_neg ed_int)))))) (bd (ed_var 4))))))
      (sbs_one (sb_wait T.mk_Open (hd_Open___init__ T) (hr.mono (by omega)) xk rfl T.mg_Open T.b_Open___init__ (ad_cons (ed_var 4) ad_nil))) sbs_nil)
    (sbs_cons (sb_take (hm rfl rfl rfl rfl rfl (hr.mono (by omega))) xk (ed_ix (bd_own 1) (bd (ed_un un_neg ed_int))) (ad_cons (ed_var 3) (ad_cons (ed_var 5) ad_nil)))
    (sbs_one (sb_if (td_cmp (dEq hr) (bd (ed_fld "Open" ["nail", "turns", "places"] 1 T.cl_Open T.na_Open_turns (bd (ed_ix (bd_own 1) (bd (ed_un un_neg ed_int)))))) (bd ed_int)) (sbs_one (sb_pop T.cl_Open T.na_Open_places)) sbs_nil))))))
  (sds_cons (sd_if (td_cmp dGt (bd (ed_callB cLen rfl T.m_len (by decide +kernel) (ab_cons (bd_own 1) ab_nil))) (bd ed_int)) (sds_one (sd_ret ed_non)) sds_nil)
  (sds_one (sd_retF (df_callB (cSorted hr) rfl T.m_sorted (by decide +kernel) (ab_cons (bd_own 2) ab_nil))))))))
theorem okN_blocks_of (T : Txt K mg fa fd ca cc ti) : FnOk P w K mg base (L2N.CX P w) 3 (fa 7) (fd 7) ["cord"] (@spNew ⟨K, tb, cc⟩ SPN_blocks_of) := by
  letI : KC := ⟨K, tb, cc⟩
  have nd := sc_blocks_of.nd
  refine fn_new T.F_blocks_of sc_blocks_of lenN_blocks_of (fun cdv A outer s H E hr xk => ⟨WN_blocks_of, ?_, pureN_blocks_of⟩)
  have hm : ∀ {X : Cx}, X.K = K → X.prog = P → X.w = w → X.mg = mg → X.base = base → Room 1 X.A → MC X "take" (cc "Open") (spTake (cc "Open")) := fun {X} e1 e2 e3 e4 e5 hr => by
    refine ⟨1, fa 6, fd 6, ["self", "place", "turns"], ?_, ?_, ?_, hr, ?_⟩
    · rw [e1]; exact T.cl_Open
    · rw [e1]; exact T.M_Open_take
    · rw [e1, e2, e3, e4, e5]; exact hd_Open_take T
    · rw [e1]; exact T.b_Open_take
  exact (sn_sd (sd_setF 1 nd (df_lst ad_nil))
  (sn_sd (sd_setF 2 nd (df_lst ad_nil))
  (sn_blk (sy_blk xk rfl (id_enum rfl T.m_enumerate (ed_var 0)) (gd_tup rfl (gds_cons (gd_name 3 nd) (gds_cons (gd_tup rfl (gds_cons (gd_name 4 nd) (gds_cons (gd_name 5 nd) gds_nil))) gds_nil)))
    (sbs_cons (sb_if (td_cmp (dEq hr) (bd (ed_var 5)) (bd ed_int)) (sbs_cons (sb_done (df_lst (ad_cons (ed_var 3) ad_nil))) (sbs_one sb_cont)) sbs_nil)
    (sbs_cons (sb_if (td_w (wd_or (td_cmp (dEq hr) (bd (ed_callB cLen rfl T.m_len (by decide +kernel) (ab_cons (bd_own 1) ab_nil))) (bd ed_int)) (wd_or1 (td_cmp (dNe hr) (bd (ed_fld "Open" ["nail", "turns", "places"] 0 T.cl_Open T.na_Open_nail (bd (ed_ix (bd_own 1) (bd (ed_un un_neg ed_int)))))) (bd (ed_var 4))))))
      (sbs_one (sb_wait T.mk_Open (hd_Open___init__ T) (hr.mono (by omega)) xk rfl T.mg_Open T.b_Open___init__ (ad_cons (ed_var 4) ad_nil))) sbs_nil)
    (sbs_cons (sb_take (hm rfl rfl rfl rfl rfl (hr.mono (by omega))) xk (ed_ix (bd_own 1) (bd (ed_un un_neg ed_int))) (ad_cons (ed_var 3) (ad_cons (ed_var 5) ad_nil)))
    (sbs_one (sb_if (td_cmp (dEq hr) (bd (ed_fld "Open" ["nail", "turns", "places"] 1 T.cl_Open T.na_Open_turns (bd (ed_ix (bd_own 1) (bd (ed_un un_neg ed_int)))))) (bd ed_int)) (sbs_one (sb_pop T.cl_Open T.na_Open_places)) sbs_nil))))))
  (snb_cons (sb_no (td_cmp dGt (bd (ed_callB cLen rfl T.m_len (by decide +kernel) (ab_cons (bd_own 1) ab_nil))) (bd ed_int)) (sds_ps (sds_one (sd_ret (E := E) ed_non))))
  (snb_ret (sr_sorted hr rfl T.m_sorted (by decide +kernel)))))))

theorem ok_law_come_to_nought (T : Txt K mg fa fd ca cc ti) : FnOk P w K mg base (L2N.CX P w) 1 (fa 8) (fd 8) ["_law_cord_here", "_law_block"] (@spOf ⟨K, tb, cc⟩ mg SP_law_come_to_nought) := by
  letI : KC := ⟨K, tb, cc⟩
  have nd := sc_law_come_to_nought.nd
  refine fn_ok T.F_law_come_to_nought sc_law_come_to_nought len_law_come_to_nought (fun cdv A outer s H E hr xk => ⟨W_law_come_to_nought, ?_, pure_law_come_to_nought⟩)
  exact (sds_cons (sd_set 2 nd ed_int)
  (sds_cons (sd_for xk rfl (id_list (ed_var 1)) (gd_name 3 nd)
  (sds_cons (sd_if (td_cmp (dNe hr) (bd (ed_ix (bd (ed_ix (bd (ed_var 0)) (bd (ed_var 3)))) (bd ed_int))) (bd (ed_ix (bd (ed_ix (bd (ed_var 0)) (bd (ed_ix (bd (ed_var 1)) (bd ed_int))))) (bd ed_int))))
  (sds_one (sd_ret ed_bl))
  sds_nil)
  (sds_one (sd_set 2 nd (ed_op dAdd (bd (ed_var 2)) (bd (ed_ix (bd (ed_ix (bd (ed_var 0)) (bd (ed_var 3)))) (bd ed_int))))))))
  (sds_one (sd_ret (ed_cmp (dEq hr) (bd (ed_var 2)) (bd ed_int))))))
theorem ok_law_numbers_right (T : Txt K mg fa fd ca cc ti) : FnOk P w K mg base (L2N.CX P w) 1 (fa 9) (fd 9) ["_law_block", "_law_many"] (@spOf ⟨K, tb, cc⟩ mg SP_law_numbers_right) := by
  letI : KC := ⟨K, tb, cc⟩
  have nd := sc_law_numbers_right.nd
  refine fn_ok T.F_law_numbers_right sc_law_numbers_right len_law_numbers_right (fun cdv A outer s H E hr xk => ⟨W_law_numbers_right, ?_, pure_law_numbers_right⟩)
  exact (sds_cons (sd_if (td_w (wd_or (td_not (td_val (bd (ed_isT rfl T.m_isinstance rfl T.m_list (by decide +kernel) (bd (ed_var 0)))))) (wd_or1 (td_cmp (dEq hr) (bd (ed_var 0)) (bd (ed_new (df_lst ad_nil)))))))
  (sds_one (sd_ret ed_bl))
  sds_nil)
  (sds_cons (sd_for xk rfl (id_range1 rfl T.m_range (ed_callB cLen rfl T.m_len (by decide +kernel) (ab_cons (bd (ed_var 0)) ab_nil))) (gd_name 2 nd)
  (sds_cons (sd_if (td_w (wd_or (td_not (td_val (bd (ed_isT rfl T.m_isinstance rfl T.m_int (by decide +kernel) (bd (ed_ix (bd (ed_var 0)) (bd (ed_var 2)))))))) (wd_or (td_val (bd (ed_isT rfl T.m_isinstance rfl T.m_bool (by decide +kernel) (bd (ed_ix (bd (ed_var 0)) (bd (ed_var 2))))))) (wd_or1 (td_not (td_chain dLe dLt (bd ed_int) (bd (ed_ix (bd (ed_var 0)) (bd (ed_var 2)))) (bd (ed_var 1))))))))
  (sds_one (sd_ret ed_bl))
  sds_nil)
  (sds_one (sd_if (td_w (wd_and (td_cmp dGt (bd (ed_var 2)) (bd ed_int)) (wd_and1 (td_cmp dLe (bd (ed_ix (bd (ed_var 0)) (bd (ed_var 2)))) (bd (ed_ix (bd (ed_var 0)) (bd (ed_op dSub (bd (ed_var 2)) (bd ed_int)))))))))
  (sds_one (sd_ret ed_bl))
  sds_nil))))
  (sds_one (sd_ret ed_bl))))
theorem ok_law_walked (T : Txt K mg fa fd ca cc ti) : FnOk P w K mg base (L2N.CX P w) 1 (fa 10) (fd 10) ["_law_found", "_law_many"] (@spOf ⟨K, tb, cc⟩ mg SP_law_walked) := by
  letI : KC := ⟨K, tb, cc⟩
  have nd := sc_law_walked.nd
  refine fn_ok T.F_law_walked sc_law_walked len_law_walked (fun cdv A outer s H E hr xk => ⟨W_law_walked, ?_, pure_law_walked⟩)
  exact (sds_cons (sd_setG 2 nd dg_new)
  (sds_cons (sd_for xk rfl (id_enum rfl T.m_enumerate (ed_var 0)) (gd_tup rfl (gds_cons (gd_name 5 nd) (gds_cons (gd_name 6 nd) gds_nil)))
  (sds_one (sd_for xk rfl (id_list (ed_var 6)) (gd_name 4 nd)
  (sds_cons (sd_if (td_cmp (dInDI hr) (bd (ed_var 4)) (bd_own 2))
  (sds_one (sd_ret ed_bl))
  sds_nil)
  (sds_one (sd_setKeyI 2 hr (ed_var 5) (ed_var 4)))))))
  (sds_cons (sd_setF 3 nd (df_lst ad_nil))
  (sds_cons (sd_for xk rfl (id_range1 rfl T.m_range (ed_var 1)) (gd_name 4 nd)
  (sds_cons (sd_set 5 nd (ed_getDI hr (bd_own 2) (ed_var 4) (ed_un un_neg ed_int)))
  (sds_cons (sd_if (td_cmp dLt (bd (ed_var 5)) (bd ed_int))
  (sds_one (sd_ret ed_bl))
  sds_nil)
  (sds_cons (sd_if (td_cmp (dEq hr) (bd (ed_ix (bd (ed_ix (bd (ed_var 0)) (bd (ed_var 5)))) (bd ed_int))) (bd (ed_var 4)))
  (sds_one (sd_mut 3 mApp PySem.F.slot_list_append PySem.F.type_list_append (ad_cons (ed_var 5) ad_nil)))
  sds_nil)
  (sds_cons (sd_if (td_cmp (dNe hr) (bd (ed_ix (bd_own 3) (bd (ed_un un_neg ed_int)))) (bd (ed_var 5)))
  (sds_one (sd_ret ed_bl))
  sds_nil)
  (sds_one (sd_if (td_cmp (dEq hr) (bd (ed_ix (bd (ed_ix (bd (ed_var 0)) (bd (ed_var 5)))) (bd (ed_un un_neg ed_int)))) (bd (ed_var 4)))
  (sds_one (sd_mut0 3 mPop PySem.F.slot_list_pop PySem.F.type_list_pop))
  sds_nil)))))))
  (sds_one (sd_ret ed_bl))))))
theorem ok_law_right (T : Txt K mg fa fd ca cc ti) : FnOk P w K mg base (L2N.CX P w) 2 (fa 11) (fd 11) ["_law_cord_here", "_law_found"] (@spOf ⟨K, tb, cc⟩ mg SP_law_right) := by
  letI : KC := ⟨K, tb, cc⟩
  have nd := sc_law_right.nd
  refine fn_ok T.F_law_right sc_law_right len_law_right (fun cdv A outer s H E hr xk => ⟨W_law_right, ?_, pure_law_right⟩)
  exact (sds_cons (sd_if (td_not (td_val (bd (ed_isT rfl T.m_isinstance rfl T.m_list (by decide +kernel) (bd (ed_var 1))))))
  (sds_one (sd_ret ed_bl))
  sds_nil)
  (sds_cons (sd_for xk rfl (id_range1 rfl T.m_range (ed_callB cLen rfl T.m_len (by decide +kernel) (ab_cons (bd (ed_var 1)) ab_nil))) (gd_name 2 nd)
  (sds_cons (sd_if (td_w (wd_or (td_not (td_val (bd (ed_call (ok_law_numbers_right T) (hr.mono (by omega)) xk rfl T.g_law_numbers_right T.F_law_numbers_right.kp T.b_law_numbers_right (ad_cons (ed_ix (bd (ed_var 1)) (bd (ed_var 2))) (ad_cons (ed_callB cLen rfl T.m_len (by decide +kernel) (ab_cons (bd (ed_var 0)) ab_nil)) ad_nil)))))) (wd_or1 (td_not (td_val (bd (ed_call (ok_law_come_to_nought T) (hr.mono (by omega)) xk rfl T.g_law_come_to_nought T.F_law_come_to_nought.kp T.b_law_come_to_nought (ad_cons (ed_var 0) (ad_cons (ed_ix (bd (ed_var 1)) (bd (ed_var 2))) ad_nil)))))))))
  (sds_one (sd_ret ed_bl))
  sds_nil)
  (sds_one (sd_if (td_w (wd_and (td_cmp dGt (bd (ed_var 2)) (bd ed_int)) (wd_and1 (td_cmp dLe (bd (ed_ix (bd (ed_ix (bd (ed_var 1)) (bd (ed_var 2)))) (bd ed_int))) (bd (ed_ix (bd (ed_ix (bd (ed_var 1)) (bd (ed_op dSub (bd (ed_var 2)) (bd ed_int))))) (bd ed_int)))))))
  (sds_one (sd_ret ed_bl))
  sds_nil))))
  (sds_one (sd_ret (ed_call (ok_law_walked T) (hr.mono (by omega)) xk rfl T.g_law_walked T.F_law_walked.kp T.b_law_walked (ad_cons (ed_var 1) (ad_cons (ed_callB cLen rfl T.m_len (by decide +kernel) (ab_cons (bd (ed_var 0)) ab_nil)) ad_nil)))))))
theorem ok_law (T : Txt K mg fa fd ca cc ti) : FnOk P w K mg base (L2N.CX P w) 4 (fa 12) (fd 12) ["_law_script"] (@spOf ⟨K, tb, cc⟩ mg SP_law) := by
  letI : KC := ⟨K, tb, cc⟩
  have nd := sc_law.nd
  refine fn_ok T.F_law sc_law len_law (fun cdv A outer s H E hr xk => ⟨W_law, ?_, pure_law⟩)
  exact (sds_cons (sd_set 1 nd (ed_call (ok_law_cord T) (hr.mono (by omega)) xk rfl T.g_law_cord T.F_law_cord.kp T.b_law_cord (ad_cons (ed_var 0) (ad_cons ed_int (ad_cons ed_int (ad_cons ed_int ad_nil))))))
  (sds_cons (sd_if (td_cmp (dEq hr) (bd (ed_op dMod (bd (ed_call (ok_law_at T) (hr.mono (by omega)) xk rfl T.g_law_at T.F_law_at.kp T.b_law_at (ad_cons (ed_var 0) (ad_cons ed_int ad_nil)))) (bd ed_int))) (bd ed_int))
  (sds_cons (sd_setLc 1 rfl nd (id_list (ed_var 1)) (blkOk_by (own := [("_law_nail", 9), ("_law_turns", 10)]) (N := N_law) (sc := defScope s_law) (by decide +kernel)) (fun _ _ _ _ _ => (gd_tup rfl (gds_cons (gd_name 9 nd) (gds_cons (gd_name 10 nd) gds_nil)))) (fun _ _ _ _ _ => (ed_tup (ad_cons ed_str (ad_cons (ed_var 10) ad_nil)))))
  (sds_frz 1 sds_nil))
  sds_nil)
  (sds_cons (sd_set 2 nd (ed_op dAdd (bd (ed_var 1)) (bd (ed_call (ok_law_contrary T) (hr.mono (by omega)) xk rfl T.g_law_contrary T.F_law_contrary.kp T.b_law_contrary (ad_cons (ed_var 1) ad_nil)))))
  (sds_cons (sd_for xk rfl (id_list (ed_sl (bd (ed_var 0)) od_none (od_some (bd ed_int)))) (gd_name 3 nd)
  (sds_cons (sd_set 7 nd (ed_op dMod (bd (ed_op dDiv (bd (ed_var 3)) (bd ed_int))) (bd (ed_op dAdd (bd (ed_callB cLen rfl T.m_len (by decide +kernel) (ab_cons (bd (ed_var 2)) ab_nil))) (bd ed_int)))))
  (sds_cons (sd_set 8 nd (ed_sl (bd (ed_call (ok_law_pieces T) (hr.mono (by omega)) xk rfl T.g_law_pieces T.F_law_pieces.kp T.b_law_pieces (ad_cons (ed_op dDiv (bd (ed_var 3)) (bd ed_int)) ad_nil))) od_none (od_some (bd ed_int))))
  (sds_one (sd_if (td_w (wd_and (td_cmp (dEq hr) (bd (ed_op dMod (bd (ed_var 3)) (bd ed_int))) (bd ed_int)) (wd_and1 (td_cmp dLt (bd (ed_var 7)) (bd (ed_callB cLen rfl T.m_len (by decide +kernel) (ab_cons (bd (ed_var 2)) ab_nil)))))))
  (sds_cons (sd_set 9 nd (ed_ix (bd (ed_ix (bd (ed_var 2)) (bd (ed_var 7)))) (bd ed_int)))
  (sds_cons (sd_set 10 nd (ed_op dSub (bd (ed_op dMod (bd (ed_op dDiv (bd (ed_var 3)) (bd ed_int))) (bd (ed_op dMul (bd ed_int) (bd (ed_op dPow (bd ed_int) (bd ed_int))))))) (bd (ed_op dPow (bd ed_int) (bd ed_int)))))
  (sds_cons (sd_set 11 nd (ed_new (df_lst (ad_cons (ed_tup (ad_cons (ed_var 9) (ad_cons (ed_var 10) ad_nil))) (ad_cons (ed_tup (ad_cons (ed_var 9) (ad_cons (ed_op dSub (bd (ed_ix (bd (ed_ix (bd (ed_var 2)) (bd (ed_var 7)))) (bd ed_int))) (bd (ed_var 10))) ad_nil))) ad_nil)))))
  (sds_one (sd_set 2 nd (ed_op dAdd (bd (ed_op dAdd (bd (ed_sl (bd (ed_var 2)) od_none (od_some (bd (ed_var 7))))) (bd (ed_var 11)))) (bd (ed_sl (bd (ed_var 2)) (od_some (bd (ed_op dAdd (bd (ed_var 7)) (bd ed_int)))) od_none))))))))
  (sds_one (sd_if (td_cmp (dEq hr) (bd (ed_op dMod (bd (ed_var 3)) (bd ed_int))) (bd ed_int))
  (sds_cons (sd_set 8 nd (ed_op dAdd (bd (ed_var 8)) (bd (ed_call (ok_law_contrary T) (hr.mono (by omega)) xk rfl T.g_law_contrary T.F_law_contrary.kp T.b_law_contrary (ad_cons (ed_var 8) ad_nil)))))
  (sds_one (sd_set 2 nd (ed_op dAdd (bd (ed_op dAdd (bd (ed_sl (bd (ed_var 2)) od_none (od_some (bd (ed_var 7))))) (bd (ed_var 8)))) (bd (ed_sl (bd (ed_var 2)) (od_some (bd (ed_var 7))) od_none))))))
  (sds_one (sd_set 2 nd (ed_op dAdd (bd (ed_op dAdd (bd (ed_sl (bd (ed_var 2)) od_none (od_some (bd (ed_var 7))))) (bd (ed_new (df_lst (ad_cons (ed_tup (ad_cons (ed_ix (bd ed_str) (bd (ed_op dMod (bd (ed_op dDiv (bd (ed_var 3)) (bd ed_int))) (bd ed_int)))) (ad_cons ed_int ad_nil))) ad_nil)))))) (bd (ed_sl (bd (ed_var 2)) (od_some (bd (ed_var 7))) od_none))))))))))))
  (sds_cons (sd_set 4 nd (ed_new (df_callT cListF rfl T.m_list (by decide +kernel) (ab_cons (bd (ed_var 2)) ab_nil))))
  (sds_found 5 6 (by decide) (okN_blocks_of T) (hr.mono (by omega)) xk rfl nd rfl T.g_blocks_of T.F_blocks_of.kp T.b_blocks_of (ad_cons (ed_var 4) ad_nil) (td_w (wd_or (td_not (td_val (bd (ed_call (ok_law_right T) (hr.mono (by omega)) xk rfl T.g_law_right T.F_law_right.kp T.b_law_right (ad_cons (ed_var 2) (ad_cons (ed_var 5) ad_nil)))))) (wd_or1 (td_cmp (dNe hr) (bd (ed_var 4)) (bd (ed_var 2)))))) (sds_ps (E := E) (sds_one (sd_ret ed_bl))) (ad_cons (ed_un un_neg ed_int) ad_nil) (fun _ _ h => h)
  (sds_one (sd_ret (ed_and (ed_call (ok_law_right T) (hr.mono (by omega)) xk rfl T.g_law_right T.F_law_right.kp T.b_law_right (ad_cons (ed_var 2) (ad_cons (ed_call (ok_blocks_of T) (hr.mono (by omega)) xk rfl T.g_blocks_of T.F_blocks_of.kp T.b_blocks_of (ad_cons (ed_var 4) ad_nil)) ad_nil))) (ed_one (ed_cmp (dEq hr) (bd (ed_call (ok_blocks_of T) (hr.mono (by omega)) xk rfl T.g_blocks_of T.F_blocks_of.kp T.b_blocks_of (ad_cons (ed_new (df_lst ad_nil)) ad_nil))) (bd (ed_new (df_lst ad_nil))))))))))))))
end
theorem all_mk {l : PySem.W.OpenLaw} {w : World} {K : PySem.W.Frag} {h : Heap} {mg : Str → Option Value} {fl : Addr} (X : K.In h) (G : h.Ns mainGlobals mg) (hfl : mg "law" = some (.ref fl))
    {f0 f1 f2 f3 f4 f5 f6 f7 f8 f9 f10 f11 f12 : Addr}
    {od0 an0 od1 an1 od2 an2 od3 an3 od4 an4 od5 an5 od6 an6 od7 an7 od8 an8 od9 an9 od10 an10 od11 an11 od12 an12 : Option Addr} {sl0 sl1 sl2 sl3 sl4 sl5 sl6 sl7 sl8 sl9 sl10 sl11 sl12 : Array (Option Value)} {oc0 kV0 dc0 pm0 ct0 cd0 oc1 kV1 dc1 pm1 ct1 cd1 oc2 kV2 dc2 pm2 ct2 cd2 oc3 kV3 dc3 pm3 ct3 cd3 oc4 kV4 dc4 pm4 ct4 cd4 oc5 kV5 dc5 pm5 ct5 cd5 oc6 kV6 dc6 pm6 ct6 cd6 oc7 kV7 dc7 pm7 ct7 cd7 oc8 kV8 dc8 pm8 ct8 cd8 oc9 kV9 dc9 pm9 ct9 cd9 oc10 kV10 dc10 pm10 ct10 cd10 oc11 kV11 dc11 pm11 ct11 cd11 oc12 kV12 dc12 pm12 ct12 cd12 : Value}
    {k100 : Addr}
    (aC100 : PySem.W.nsIn K mainGlobals "Open" = some (some (.ref k100))) (pg100 : PySem.W.plainGet K k100 Str.empty = true) (hd100 : PySem.W.hasDictIn K k100 = true) (po100 : PySem.W.plainOver K k100 = true) (sa100 : PySem.W.findIn K (.ref k100) "__setattr__" = some (some (.builtin "object.__setattr__"))) (mk100 : PySem.W.makesIn K k100 = true) (kc100 : PySem.W.keepIn K (.ref k100) = true)
    (nf100_nail : PySem.W.findIn K (.ref k100) "nail" = some none)
    (nf100_turns : PySem.W.findIn K (.ref k100) "turns" = some none)
    (nf100_places : PySem.W.findIn K (.ref k100) "places" = some none)
    (a0 : PySem.W.nsIn K mainGlobals "_law_at" = some (some (.ref f0))) (l0 : K.lookup f0 = some ⟨oc0, od0, .func (PySem.W.fnOf "_law_at" "_law_at" (defArgs s_law_at) (defBody s_law_at) (defScope s_law_at) .none kV0 dc0 pm0 an0 cd0 ct0), sl0⟩) (c0' : PySem.W.codeIn K cd0 "_law_at" = true) (k0 : PySem.W.keepIn K (.ref f0) = true)
    (a1 : PySem.W.nsIn K mainGlobals "_law_contrary" = some (some (.ref f1))) (l1 : K.lookup f1 = some ⟨oc1, od1, .func (PySem.W.fnOf "_law_contrary" "_law_contrary" (defArgs s_law_contrary) (defBody s_law_contrary) (defScope s_law_contrary) .none kV1 dc1 pm1 an1 cd1 ct1), sl1⟩) (c1' : PySem.W.codeIn K cd1 "_law_contrary" = true) (k1 : PySem.W.keepIn K (.ref f1) = true)
    (a2 : PySem.W.nsIn K mainGlobals "_law_mix" = some (some (.ref f2))) (l2 : K.lookup f2 = some ⟨oc2, od2, .func (PySem.W.fnOf "_law_mix" "_law_mix" (defArgs s_law_mix) (defBody s_law_mix) (defScope s_law_mix) .none kV2 dc2 pm2 an2 cd2 ct2), sl2⟩) (c2' : PySem.W.codeIn K cd2 "_law_mix" = true) (k2 : PySem.W.keepIn K (.ref f2) = true)
    (a3 : PySem.W.nsIn K mainGlobals "_law_pieces" = some (some (.ref f3))) (l3 : K.lookup f3 = some ⟨oc3, od3, .func (PySem.W.fnOf "_law_pieces" "_law_pieces" (defArgs s_law_pieces) (defBody s_law_pieces) (defScope s_law_pieces) .none kV3 dc3 pm3 an3 cd3 ct3), sl3⟩) (c3' : PySem.W.codeIn K cd3 "_law_pieces" = true) (k3 : PySem.W.keepIn K (.ref f3) = true)
    (a4 : PySem.W.nsIn K mainGlobals "_law_cord" = some (some (.ref f4))) (l4 : K.lookup f4 = some ⟨oc4, od4, .func (PySem.W.fnOf "_law_cord" "_law_cord" (defArgs s_law_cord) (defBody s_law_cord) (defScope s_law_cord) .none kV4 dc4 pm4 an4 cd4 ct4), sl4⟩) (c4' : PySem.W.codeIn K cd4 "_law_cord" = true) (k4 : PySem.W.keepIn K (.ref f4) = true)
    (a5_0 : PySem.W.findIn K (.ref k100) "__init__" = some (some (.ref f5)))
    (i5 : PySem.W.isFn K (.ref f5) = true) (l5 : K.lookup f5 = some ⟨oc5, od5, .func (PySem.W.fnOf "__init__" "Open.__init__" (defArgs s_Open___init__) (defBody s_Open___init__) (defScope s_Open___init__) .none kV5 dc5 pm5 an5 cd5 ct5), sl5⟩) (c5' : PySem.W.codeIn K cd5 "Open.__init__" = true) (k5 : PySem.W.keepIn K (.ref f5) = true)
    (a6_0 : PySem.W.findIn K (.ref k100) "take" = some (some (.ref f6)))
    (i6 : PySem.W.isFn K (.ref f6) = true) (l6 : K.lookup f6 = some ⟨oc6, od6, .func (PySem.W.fnOf "take" "Open.take" (defArgs s_Open_take) (defBody s_Open_take) (defScope s_Open_take) .none kV6 dc6 pm6 an6 cd6 ct6), sl6⟩) (c6' : PySem.W.codeIn K cd6 "Open.take" = true) (k6 : PySem.W.keepIn K (.ref f6) = true)
    (a7 : PySem.W.nsIn K mainGlobals "blocks_of" = some (some (.ref f7))) (l7 : K.lookup f7 = some ⟨oc7, od7, .func (PySem.W.fnOf "blocks_of" "blocks_of" (defArgs s_blocks_of) (defBody s_blocks_of) (defScope s_blocks_of) .none kV7 dc7 pm7 an7 cd7 ct7), sl7⟩) (c7' : PySem.W.codeIn K cd7 "blocks_of" = true) (k7 : PySem.W.keepIn K (.ref f7) = true)
    (a8 : PySem.W.nsIn K mainGlobals "_law_come_to_nought" = some (some (.ref f8))) (l8 : K.lookup f8 = some ⟨oc8, od8, .func (PySem.W.fnOf "_law_come_to_nought" "_law_come_to_nought" (defArgs s_law_come_to_nought) (defBody s_law_come_to_nought) (defScope s_law_come_to_nought) .none kV8 dc8 pm8 an8 cd8 ct8), sl8⟩) (c8' : PySem.W.codeIn K cd8 "_law_come_to_nought" = true) (k8 : PySem.W.keepIn K (.ref f8) = true)
    (a9 : PySem.W.nsIn K mainGlobals "_law_numbers_right" = some (some (.ref f9))) (l9 : K.lookup f9 = some ⟨oc9, od9, .func (PySem.W.fnOf "_law_numbers_right" "_law_numbers_right" (defArgs s_law_numbers_right) (defBody s_law_numbers_right) (defScope s_law_numbers_right) .none kV9 dc9 pm9 an9 cd9 ct9), sl9⟩) (c9' : PySem.W.codeIn K cd9 "_law_numbers_right" = true) (k9 : PySem.W.keepIn K (.ref f9) = true)
    (a10 : PySem.W.nsIn K mainGlobals "_law_walked" = some (some (.ref f10))) (l10 : K.lookup f10 = some ⟨oc10, od10, .func (PySem.W.fnOf "_law_walked" "_law_walked" (defArgs s_law_walked) (defBody s_law_walked) (defScope s_law_walked) .none kV10 dc10 pm10 an10 cd10 ct10), sl10⟩) (c10' : PySem.W.codeIn K cd10 "_law_walked" = true) (k10 : PySem.W.keepIn K (.ref f10) = true)
    (a11 : PySem.W.nsIn K mainGlobals "_law_right" = some (some (.ref f11))) (l11 : K.lookup f11 = some ⟨oc11, od11, .func (PySem.W.fnOf "_law_right" "_law_right" (defArgs s_law_right) (defBody s_law_right) (defScope s_law_right) .none kV11 dc11 pm11 an11 cd11 ct11), sl11⟩) (c11' : PySem.W.codeIn K cd11 "_law_right" = true) (k11 : PySem.W.keepIn K (.ref f11) = true)
    (a12 : PySem.W.nsIn K mainGlobals "law" = some (some (.ref f12))) (l12 : K.lookup f12 = some ⟨oc12, od12, .func (PySem.W.fnOf "law" "law" (defArgs s_law) (defBody s_law) (defScope s_law) .none kV12 dc12 pm12 an12 cd12 ct12), sl12⟩) (c12' : PySem.W.codeIn K cd12 "law" = true) (k12 : PySem.W.keepIn K (.ref f12) = true)
    (z_abs : PySem.W.nsIn K mainGlobals "abs" = some none)
    (z_bool : PySem.W.nsIn K mainGlobals "bool" = some none)
    (z_enumerate : PySem.W.nsIn K mainGlobals "enumerate" = some none)
    (z_int : PySem.W.nsIn K mainGlobals "int" = some none)
    (z_isinstance : PySem.W.nsIn K mainGlobals "isinstance" = some none)
    (z_len : PySem.W.nsIn K mainGlobals "len" = some none)
    (z_list : PySem.W.nsIn K mainGlobals "list" = some none)
    (z_range : PySem.W.nsIn K mainGlobals "range" = some none)
    (z_reversed : PySem.W.nsIn K mainGlobals "reversed" = some none)
    (z_sorted : PySem.W.nsIn K mainGlobals "sorted" = some none)
    : ∃ fd : FuncData, (∀ (s : Shared) (v : Value), BindsTo s fd ⟨[v], []⟩ [("_law_script", v)]) ∧ ∀ base : Heap, K.In base → base.Ns mainGlobals mg → FnOk l.prog w K mg base (L2N.CX l.prog w) 4 fl fd ["_law_script"] (@spOf ⟨K, [], ccOf [("Open", k100)]⟩ mg SP_law) := by
  have e := hfl.symm.trans (PySem.W.mg_of X G a12)
  cases e
  have F0 := fun_mk (st := s_law_at) l0 c0' k0
  have b0 := F0.binds (ps := ["_law_script", "_law_k"]) fun _ _ _ _ _ _ us hl => match us, hl with | [_, _], _ => rfl
  have F1 := fun_mk (st := s_law_contrary) l1 c1' k1
  have b1 := F1.binds (ps := ["_law_cord_here"]) fun _ _ _ _ _ _ us hl => match us, hl with | [_], _ => rfl
  have F2 := fun_mk (st := s_law_mix) l2 c2' k2
  have b2 := F2.binds (ps := ["_law_cell", "_law_k"]) fun _ _ _ _ _ _ us hl => match us, hl with | [_, _], _ => rfl
  have F3 := fun_mk (st := s_law_pieces) l3 c3' k3
  have b3 := F3.binds (ps := ["_law_cell"]) fun _ _ _ _ _ _ us hl => match us, hl with | [_], _ => rfl
  have F4 := fun_mk (st := s_law_cord) l4 c4' k4
  have b4 := F4.binds (ps := ["_law_script", "_law_first", "_law_last", "_law_most"]) fun _ _ _ _ _ _ us hl => match us, hl with | [_, _, _, _], _ => rfl
  have F5 := fun_mk (st := s_Open___init__) l5 c5' k5
  have b5 := F5.binds (ps := ["self", "nail"]) fun _ _ _ _ _ _ us hl => match us, hl with | [_, _], _ => rfl
  have F6 := fun_mk (st := s_Open_take) l6 c6' k6
  have b6 := F6.binds (ps := ["self", "place", "turns"]) fun _ _ _ _ _ _ us hl => match us, hl with | [_, _, _], _ => rfl
  have F7 := fun_mk (st := s_blocks_of) l7 c7' k7
  have b7 := F7.binds (ps := ["cord"]) fun _ _ _ _ _ _ us hl => match us, hl with | [_], _ => rfl
  have F8 := fun_mk (st := s_law_come_to_nought) l8 c8' k8
  have b8 := F8.binds (ps := ["_law_cord_here", "_law_block"]) fun _ _ _ _ _ _ us hl => match us, hl with | [_, _], _ => rfl
  have F9 := fun_mk (st := s_law_numbers_right) l9 c9' k9
  have b9 := F9.binds (ps := ["_law_block", "_law_many"]) fun _ _ _ _ _ _ us hl => match us, hl with | [_, _], _ => rfl
  have F10 := fun_mk (st := s_law_walked) l10 c10' k10
  have b10 := F10.binds (ps := ["_law_found", "_law_many"]) fun _ _ _ _ _ _ us hl => match us, hl with | [_, _], _ => rfl
  have F11 := fun_mk (st := s_law_right) l11 c11' k11
  have b11 := F11.binds (ps := ["_law_cord_here", "_law_found"]) fun _ _ _ _ _ _ us hl => match us, hl with | [_, _], _ => rfl
  have F12 := fun_mk (st := s_law) l12 c12' k12
  have b12 := F12.binds (ps := ["_law_script"]) fun _ _ _ _ _ _ us hl => match us, hl with | [_], _ => rfl
  let fa : Nat → Addr := fun i => [f0, f1, f2, f3, f4, f5, f6, f7, f8, f9, f10, f11, fl].getD i 0
  let fd : Nat → FuncData := fun i => [PySem.W.fnOf "_law_at" "_law_at" (defArgs s_law_at) (defBody s_law_at) (defScope s_law_at) .none kV0 dc0 pm0 an0 cd0 ct0, PySem.W.fnOf "_law_contrary" "_law_contrary" (defArgs s_law_contrary) (defBody s_law_contrary) (defScope s_law_contrary) .none kV1 dc1 pm1 an1 cd1 ct1, PySem.W.fnOf "_law_mix" "_law_mix" (defArgs s_law_mix) (defBody s_law_mix) (defScope s_law_mix) .none kV2 dc2 pm2 an2 cd2 ct2, PySem.W.fnOf "_law_pieces" "_law_pieces" (defArgs s_law_pieces) (defBody s_law_pieces) (defScope s_law_pieces) .none kV3 dc3 pm3 an3 cd3 ct3, PySem.W.fnOf "_law_cord" "_law_cord" (defArgs s_law_cord) (defBody s_law_cord) (defScope s_law_cord) .none kV4 dc4 pm4 an4 cd4 ct4, PySem.W.fnOf "__init__" "Open.__init__" (defArgs s_Open___init__) (defBody s_Open___init__) (defScope s_Open___init__) .none kV5 dc5 pm5 an5 cd5 ct5, PySem.W.fnOf "take" "Open.take" (defArgs s_Open_take) (defBody s_Open_take) (defScope s_Open_take) .none kV6 dc6 pm6 an6 cd6 ct6, PySem.W.fnOf "blocks_of" "blocks_of" (defArgs s_blocks_of) (defBody s_blocks_of) (defScope s_blocks_of) .none kV7 dc7 pm7 an7 cd7 ct7, PySem.W.fnOf "_law_come_to_nought" "_law_come_to_nought" (defArgs s_law_come_to_nought) (defBody s_law_come_to_nought) (defScope s_law_come_to_nought) .none kV8 dc8 pm8 an8 cd8 ct8, PySem.W.fnOf "_law_numbers_right" "_law_numbers_right" (defArgs s_law_numbers_right) (defBody s_law_numbers_right) (defScope s_law_numbers_right) .none kV9 dc9 pm9 an9 cd9 ct9, PySem.W.fnOf "_law_walked" "_law_walked" (defArgs s_law_walked) (defBody s_law_walked) (defScope s_law_walked) .none kV10 dc10 pm10 an10 cd10 ct10, PySem.W.fnOf "_law_right" "_law_right" (defArgs s_law_right) (defBody s_law_right) (defScope s_law_right) .none kV11 dc11 pm11 an11 cd11 ct11, PySem.W.fnOf "law" "law" (defArgs s_law) (defBody s_law) (defScope s_law) .none kV12 dc12 pm12 an12 cd12 ct12].getD i (PySem.W.fnOf "law" "law" (defArgs s_law) (defBody s_law) (defScope s_law) .none kV12 dc12 pm12 an12 cd12 ct12)
  let ca : Nat → Addr := fun i => [].getD i 0
  have e_Open : (ccOf [("Open", k100)]) "Open" = k100 := ccOf_hd
  have T : Txt K mg fa fd ca (ccOf [("Open", k100)]) (fun j => [].getD j 0) := ⟨PySem.W.mg_none_of X G z_abs, PySem.W.mg_none_of X G z_bool, PySem.W.mg_none_of X G z_enumerate, PySem.W.mg_none_of X G z_int, PySem.W.mg_none_of X G z_isinstance, PySem.W.mg_none_of X G z_len, PySem.W.mg_none_of X G z_list, PySem.W.mg_none_of X G z_range, PySem.W.mg_none_of X G z_reversed, PySem.W.mg_none_of X G z_sorted, PySem.W.mg_of X G a0, F0, b0, PySem.W.mg_of X G a1, F1, b1, PySem.W.mg_of X G a2, F2, b2, PySem.W.mg_of X G a3, F3, b3, PySem.W.mg_of X G a4, F4, b4, (by rw [e_Open]; exact ⟨mk100, a5_0, i5, kc100⟩), F5, b5, (by rw [e_Open]; exact ⟨a6_0, i6, k6⟩), F6, b6, PySem.W.mg_of X G a7, F7, b7, PySem.W.mg_of X G a8, F8, b8, PySem.W.mg_of X G a9, F9, b9, PySem.W.mg_of X G a10, F10, b10, PySem.W.mg_of X G a11, F11, b11, PySem.W.mg_of X G a12, F12, b12, (by rw [e_Open]; exact ⟨pg100, hd100, po100, sa100⟩), (by rw [e_Open]; exact PySem.W.mg_of X G aC100), (by rw [e_Open]; exact nf100_nail), (by rw [e_Open]; exact nf100_turns), (by rw [e_Open]; exact nf100_places)⟩
  exact ⟨PySem.W.fnOf "law" "law" (defArgs s_law) (defBody s_law) (defScope s_law) .none kV12 dc12 pm12 an12 cd12 ct12, fun s v => .of_eq rfl, fun base _ _ => ok_law T⟩
end NL
open PySem PySem.W PyProof.Rows
set_option maxHeartbeats 0 in
theorem PySem.Challenge.cw_nailhang_k05_blocks_holds : PySem.Challenge.rw_nailhang_k05_blocks.Holds := by
  w_on; o_law; k_head; (case hw => w_witness2)
  k_fill
  refine L2.walk_of (l := PySem.Challenge.rw_nailhang_k05_blocks) (n := 63) (k := 4) (x := "_law_script") (CX := fun w => L2N.CX PySem.Challenge.rw_nailhang_k05_blocks.prog w) (sp := fun w => NL.spLaw _) rfl (by decide) rfl ⟨rfl, by decide, by decide⟩ (fun w h Y => PySem.W.kIn_of Y) ?F (fun _ _ a ns hl hO hS => NL.law_in hl hS) (fun _ _ _ _ _ h => NL.law_cx h)
  case F =>
    intro w mg fa h KX G hmg
    refine' NL.law_F (NL.all_mk KX G hmg ?aC100 ?pg100 ?hd100 ?po100 ?sa100 ?mk100 ?kc100 ?nf100_nail ?nf100_turns ?nf100_places ?a0 ?l0 ?c0p ?k0 ?a1 ?l1 ?c1p ?k1 ?a2 ?l2 ?c2p ?k2 ?a3 ?l3 ?c3p ?k3 ?a4 ?l4 ?c4p ?k4 ?a5_0 ?i5 ?l5 ?c5p ?k5 ?a6_0 ?i6 ?l6 ?c6p ?k6 ?a7 ?l7 ?c7p ?k7 ?a8 ?l8 ?c8p ?k8 ?a9 ?l9 ?c9p ?k9 ?a10 ?l10 ?c10p ?k10 ?a11 ?l11 ?c11p ?k11 ?a12 ?l12 ?c12p ?k12 ?z_abs ?z_bool ?z_enumerate ?z_int ?z_isinstance ?z_len ?z_list ?z_range ?z_reversed ?z_sorted)
    (case aC100 => k_is)
    (case pg100 => k_is)
    (case hd100 => k_is)
    (case po100 => k_is)
    (case sa100 => k_is)
    (case mk100 => k_is)
    (case kc100 => k_is)
    (case nf100_nail => k_is)
    (case nf100_turns => k_is)
    (case nf100_places => k_is)
    (case a0 => k_is)
    (case l0 => k_is)
    (case c0p => k_is)
    (case k0 => k_is)
    (case a1 => k_is)
    (case l1 => k_is)
    (case c1p => k_is)
    (case k1 => k_is)
    (case a2 => k_is)
    (case l2 => k_is)
    (case c2p => k_is)
    (case k2 => k_is)
    (case a3 => k_is)
    (case l3 => k_is)
    (case c3p => k_is)
    (case k3 => k_is)
    (case a4 => k_is)
    (case l4 => k_is)
    (case c4p => k_is)
    (case k4 => k_is)
    (case a5_0 => k_is)
    (case i5 => k_is)
    (case l5 => k_is)
    (case c5p => k_is)
    (case k5 => k_is)
    (case a6_0 => k_is)
    (case i6 => k_is)
    (case l6 => k_is)
    (case c6p => k_is)
    (case k6 => k_is)
    (case a7 => k_is)
    (case l7 => k_is)
    (case c7p => k_is)
    (case k7 => k_is)
    (case a8 => k_is)
    (case l8 => k_is)
    (case c8p => k_is)
    (case k8 => k_is)
    (case a9 => k_is)
    (case l9 => k_is)
    (case c9p => k_is)
    (case k9 => k_is)
    (case a10 => k_is)
    (case l10 => k_is)
    (case c10p => k_is)
    (case k10 => k_is)
    (case a11 => k_is)
    (case l11 => k_is)
    (case c11p => k_is)
    (case k11 => k_is)
    (case a12 => k_is)
    (case l12 => k_is)
    (case c12p => k_is)
    (case k12 => k_is)
    (case z_abs => k_is)
    (case z_bool => k_is)
    (case z_enumerate => k_is)
    (case z_int => k_is)
    (case z_isinstance => k_is)
    (case z_len => k_is)
    (case z_list => k_is)
    (case z_range => k_is)
    (case z_reversed => k_is)
    (case z_sorted => k_is)
#print axioms PySem.Challenge.cw_nailhang_k05_blocks_holds
