import PyProof.Rows.All
import HandS.ForMost
import HandS.ForExc
import HandS.Wide
import HandS.IsInst
import HandS.Flow
import HandS.Lambda
import HandS.Style
import KE.SortKeyHeap
import HandS.Set
import HandS.SetFor
import HandS.SortKw
import KE.DatumOrd
import HandS.ExcIs
import HandS.HotCalls
import HandS.Replace
import HandS.DictTup
import HandS.ListItems
import KE.SortData
import PyProof.Transfer
import HandS.Text
import PySem.Challenge.RW_nailhang_k16_all_rows_of_a_length
set_option Elab.async false
set_option linter.all false
set_option maxRecDepth 100000
set_option maxHeartbeats 2000000
/-! Data over the hand layer: what an expression tells as data, with no heap in sight. -/
namespace NL
open PySem PySem.Spec L2
open PyProof.Rows hiding St

/-- the written part; the tables of code objects; the own classes -/
class KC where
  K : PySem.W.Frag
  T : List (Addr × Str)
  ca : Str → Addr
variable [KC]
inductive D where
  | non | bl (b : Bool) | int (i : Int) | str (s : Str) | lst (xs : List D) | tup (xs : List D) | dct (ks : List Key) (xs : List D) | ref (a : Addr) | scr (ns : List Int) | dkz (ks : List Key) (xs : List D) | obj (c : Str) (fs : List Str) (xs : List D)

mutual
def Dat (S : Hp) : D → V → Prop
  | .non, v => v = .non
  | .bl b, v => v = .bl b
  | .int i, v => v = .int i
  | .str s, v => v = .str s
  | .lst xs, v => ∃ a vs, v = .ref a ∧ S a = some (.lst vs) ∧ Dats S xs vs
  | .tup xs, v => ∃ a vs, v = .ref a ∧ S a = some (.tup vs) ∧ Dats S xs vs
  | .dct ks xs, v => ∃ a kvs, v = .ref a ∧ S a = some (.dK kvs) ∧ kvs.map (·.1) = ks ∧ Dats S xs (kvs.map (·.2))
  | .dkz ks xs, v => ∃ a o kvs, v = .ref a ∧ S a = some (.frz o (.dK kvs)) ∧ kvs.map (·.1) = ks ∧ Dats S xs (kvs.map (·.2))
  | .obj c fs xs, v => ∃ a dx kvs, v = .ref a ∧ S a = some (.ins (KC.ca c) dx kvs) ∧ kvs.map (·.1) = fs ∧ Dats S xs (kvs.map (·.2))
  | .ref a, v => v = .ref a
  | .scr ns, v => ∃ a, v = .ref a ∧ SqL KC.K S a (ns.map V.int)
def Dats (S : Hp) : List D → List V → Prop
  | [], vs => vs = []
  | x :: xs, vs => ∃ v r, vs = v :: r ∧ Dat S x v ∧ Dats S xs r
end

theorem same_rd {S T : Hp} {a : Addr} {u : HO} (e : Same S T) (h : Rd S a u) : Rd T a u := by
  rcases h with h | ⟨o, h⟩
  · exact .inl (e _ _ h)
  · exact .inr ⟨o, e _ _ h⟩
mutual
theorem Dat.mono {S T : Hp} (e : Same S T) : ∀ (d : D) (v : V), Dat S d v → Dat T d v
  | .non, _, h => h
  | .bl _, _, h => h
  | .int _, _, h => h
  | .str _, _, h => h
  | .ref _, _, h => h
  | .scr ns, v, h => by
    unfold Dat at h ⊢
    obtain ⟨a, h1, h2⟩ := h
    exact ⟨a, h1, e.seq h2⟩
  | .lst xs, v, h => by
    unfold Dat at h ⊢
    obtain ⟨a, vs, h1, h2, h3⟩ := h
    exact ⟨a, vs, h1, e _ _ h2, Dats.mono e xs vs h3⟩
  | .tup xs, v, h => by
    unfold Dat at h ⊢
    obtain ⟨a, vs, h1, h2, h3⟩ := h
    exact ⟨a, vs, h1, e _ _ h2, Dats.mono e xs vs h3⟩
  | .dct ks xs, v, h => by
    unfold Dat at h ⊢
    obtain ⟨a, kvs, h1, h2, h3, h4⟩ := h
    exact ⟨a, kvs, h1, e _ _ h2, h3, Dats.mono e xs _ h4⟩
  | .dkz ks xs, v, h => by
    unfold Dat at h ⊢
    obtain ⟨a, o, kvs, h1, h2, h3, h4⟩ := h
    exact ⟨a, o, kvs, h1, e _ _ h2, h3, Dats.mono e xs _ h4⟩
  | .obj c fs xs, v, h => by
    unfold Dat at h ⊢
    obtain ⟨a, dx, kvs, h1, h2, h3, h4⟩ := h
    exact ⟨a, dx, kvs, h1, e _ _ h2, h3, Dats.mono e xs _ h4⟩
theorem Dats.mono {S T : Hp} (e : Same S T) : ∀ (xs : List D) (vs : List V), Dats S xs vs → Dats T xs vs
  | [], _, h => h
  | x :: xs, vs, h => by
    unfold Dats at h ⊢
    obtain ⟨v, r, h1, h2, h3⟩ := h
    exact ⟨v, r, h1, Dat.mono e x v h2, Dats.mono e xs r h3⟩
end
section
variable {S T : Hp}
theorem Dats.len : ∀ {xs : List D} {vs : List V}, Dats S xs vs → vs.length = xs.length
  | [], _, h => by unfold Dats at h; subst h; rfl
  | x :: xs, vs, h => by
    unfold Dats at h
    obtain ⟨v, r, rfl, _, h3⟩ := h
    simp only [List.length_cons, h3.len]
theorem Dats.cons {x : D} {xs : List D} {v : V} {vs : List V} (h : Dat S x v) (r : Dats S xs vs) : Dats S (x :: xs) (v :: vs) := by
  unfold Dats
  exact ⟨v, vs, rfl, h, r⟩
theorem Dats.nil : Dats S [] [] := by unfold Dats; rfl
theorem Dats.app : ∀ {xs ys : List D} {vs ws : List V}, Dats S xs vs → Dats S ys ws → Dats S (xs ++ ys) (vs ++ ws)
  | [], _, _, _, h, g => by unfold Dats at h; subst h; exact g
  | x :: xs, ys, vs, ws, h, g => by
    unfold Dats at h
    obtain ⟨v, r, rfl, h2, h3⟩ := h
    exact .cons h2 (h3.app g)
theorem Dats.one {x : D} {v : V} (h : Dat S x v) : Dats S [x] [v] := .cons h .nil
theorem Dats.take : ∀ (n : Nat) {xs : List D} {vs : List V}, Dats S xs vs → Dats S (xs.take n) (vs.take n)
  | 0, xs, vs, _ => by simp; exact .nil
  | n + 1, [], vs, h => by unfold Dats at h; subst h; simp; exact .nil
  | n + 1, x :: xs, vs, h => by
    unfold Dats at h
    obtain ⟨v, r, rfl, h2, h3⟩ := h
    simp only [List.take_succ_cons]
    exact .cons h2 (h3.take n)
theorem Dats.drop : ∀ (n : Nat) {xs : List D} {vs : List V}, Dats S xs vs → Dats S (xs.drop n) (vs.drop n)
  | 0, xs, vs, h => h
  | n + 1, [], vs, h => by unfold Dats at h; subst h; simp; exact .nil
  | n + 1, x :: xs, vs, h => by
    unfold Dats at h
    obtain ⟨v, r, rfl, h2, h3⟩ := h
    simp only [List.drop_succ_cons]
    exact h3.drop n
theorem Dats.get : ∀ {xs : List D} {vs : List V} {i : Nat} {x : D}, Dats S xs vs → xs[i]? = some x → ∃ v, vs[i]? = some v ∧ Dat S x v
  | [], _, i, x, _, e => by simp at e
  | x :: xs, vs, 0, y, h, e => by
    unfold Dats at h
    obtain ⟨v, r, rfl, h2, h3⟩ := h
    simp at e
    subst e
    exact ⟨v, rfl, h2⟩
  | x :: xs, vs, i + 1, y, h, e => by
    unfold Dats at h
    obtain ⟨v, r, rfl, h2, h3⟩ := h
    simp at e ⊢
    exact h3.get e
theorem Dats.getV : ∀ {xs : List D} {vs : List V} {i : Nat} {v : V}, Dats S xs vs → vs[i]? = some v → ∃ x, xs[i]? = some x ∧ Dat S x v
  | [], _, i, x, h, e => by unfold Dats at h; subst h; simp at e
  | x :: xs, vs, 0, y, h, e => by
    unfold Dats at h
    obtain ⟨v, r, rfl, h2, h3⟩ := h
    simp at e
    subst e
    exact ⟨x, rfl, h2⟩
  | x :: xs, vs, i + 1, y, h, e => by
    unfold Dats at h
    obtain ⟨v, r, rfl, h2, h3⟩ := h
    simp at e ⊢
    exact h3.getV e
theorem Dats.set : ∀ {xs : List D} {vs : List V} (i : Nat) {x : D} {v : V}, Dats S xs vs → Dat S x v → Dats S (xs.set i x) (vs.set i v)
  | [], _, i, x, v, h, g => by unfold Dats at h; subst h; simp; exact .nil
  | y :: xs, vs, 0, x, v, h, g => by
    unfold Dats at h
    obtain ⟨v', r, rfl, h2, h3⟩ := h
    exact .cons g h3
  | y :: xs, vs, i + 1, x, v, h, g => by
    unfold Dats at h
    obtain ⟨v', r, rfl, h2, h3⟩ := h
    exact .cons h2 (h3.set i g)
theorem Dats.dropLast {xs : List D} {vs : List V} (h : Dats S xs vs) : Dats S xs.dropLast vs.dropLast := by
  rw [List.dropLast_eq_take, List.dropLast_eq_take, h.len]
  exact h.take _
theorem Dats.rev : ∀ {xs : List D} {vs : List V}, Dats S xs vs → Dats S xs.reverse vs.reverse
  | [], _, h => by unfold Dats at h; subst h; exact .nil
  | x :: xs, vs, h => by
    unfold Dats at h
    obtain ⟨v, r, rfl, h2, h3⟩ := h
    simp only [List.reverse_cons]
    exact h3.rev.app (.one h2)
theorem Dats.rep {xs : List D} {vs : List V} (h : Dats S xs vs) : ∀ n, Dats S (List.replicate n xs).flatten (List.replicate n vs).flatten
  | 0 => .nil
  | n + 1 => by
    simp only [List.replicate_succ, List.flatten_cons]
    exact h.app (h.rep n)
theorem Dats.ins : ∀ {xs : List D} {vs : List V} (i : Nat) {x : D} {v : V}, Dats S xs vs → Dat S x v → Dats S (xs.insertIdx i x) (vs.insertIdx i v)
  | xs, vs, 0, x, v, h, g => by simp; exact .cons g h
  | [], vs, i + 1, x, v, h, g => by unfold Dats at h; subst h; simp; exact .nil
  | y :: xs, vs, i + 1, x, v, h, g => by
    unfold Dats at h
    obtain ⟨v', r, rfl, h2, h3⟩ := h
    simp only [List.insertIdx_succ_cons]
    exact .cons h2 (h3.ins i g)
theorem Dats.ints : ∀ (ns : List Int), Dats S (ns.map D.int) (ns.map V.int)
  | [] => .nil
  | n :: ns => .cons (by unfold Dat; rfl) (Dats.ints ns)
theorem Dats.ofInts : ∀ {ns : List Int} {vs : List V}, Dats S (ns.map D.int) vs → vs = ns.map V.int
  | [], vs, h => by unfold Dats at h; exact h
  | n :: ns, vs, h => by
    unfold Dats at h
    obtain ⟨v, r, rfl, h2, h3⟩ := h
    unfold Dat at h2
    subst h2
    simp only [List.map_cons, Dats.ofInts h3]
theorem Dats.ofStrs : ∀ {ns : List Str} {vs : List V}, Dats S (ns.map D.str) vs → vs = ns.map V.str
  | [], vs, h => by unfold Dats at h; exact h
  | n :: ns, vs, h => by
    unfold Dats at h
    obtain ⟨v, r, rfl, h2, h3⟩ := h
    unfold Dat at h2
    subst h2
    simp only [List.map_cons, Dats.ofStrs h3]
theorem Dats.strs : ∀ (ns : List Str), Dats S (ns.map D.str) (ns.map V.str)
  | [] => .nil
  | n :: ns => .cons (by unfold Dat; rfl) (Dats.strs ns)
theorem Dats.ofBls : ∀ {ns : List Bool} {vs : List V}, Dats S (ns.map D.bl) vs → vs = ns.map V.bl
  | [], vs, h => by unfold Dats at h; exact h
  | n :: ns, vs, h => by
    unfold Dats at h
    obtain ⟨v, r, rfl, h2, h3⟩ := h
    unfold Dat at h2
    subst h2
    simp only [List.map_cons, Dats.ofBls h3]
end

/-! ### what is owned by a slot -/
inductive Cn where
  | lst (xs : List D) | dct (ks : List Key) (xs : List D) | obj (c : Str) (fs : List Str) (xs : List D)
def Cn.d : Cn → D
  | .lst xs => .lst xs
  | .dct ks xs => .dct ks xs
  | .obj c fs xs => .obj c fs xs
def CnOk (S : Hp) : Cn → HO → Prop
  | .lst xs, o => ∃ vs, o = .lst vs ∧ Dats S xs vs
  | .dct ks xs, o => ∃ kvs, o = .dK kvs ∧ kvs.map (·.1) = ks ∧ Dats S xs (kvs.map (·.2))
  | .obj c fs xs, o => ∃ dx kvs, o = .ins (KC.ca c) dx kvs ∧ kvs.map (·.1) = fs ∧ Dats S xs (kvs.map (·.2))
theorem CnOk.mono {S T : Hp} (e : Same S T) : ∀ {c : Cn} {o : HO}, CnOk S c o → CnOk T c o
  | .lst xs, o, ⟨vs, h1, h2⟩ => ⟨vs, h1, Dats.mono e _ _ h2⟩
  | .dct ks xs, o, ⟨vs, h1, h2, h3⟩ => ⟨vs, h1, h2, Dats.mono e _ _ h3⟩
  | .obj c fs xs, o, ⟨dx, vs, h1, h2, h3⟩ => ⟨dx, vs, h1, h2, Dats.mono e _ _ h3⟩
theorem CnOk.dat {S : Hp} {a : Addr} {o : HO} (h : S a = some o) : ∀ {c : Cn}, CnOk S c o → Dat S c.d (.ref a)
  | .lst xs, ⟨vs, h1, h2⟩ => by
    subst h1
    show Dat S (.lst xs) _
    unfold Dat
    exact ⟨a, vs, rfl, h, h2⟩
  | .dct ks xs, ⟨vs, h1, h2, h3⟩ => by
    subst h1
    show Dat S (.dct ks xs) _
    unfold Dat
    exact ⟨a, vs, rfl, h, h2, h3⟩
  | .obj c fs xs, ⟨dx, vs, h1, h2, h3⟩ => by
    subst h1
    show Dat S (.obj c fs xs) _
    unfold Dat
    exact ⟨a, dx, vs, rfl, h, h2, h3⟩
theorem CnOk.ntb {S : Hp} {o : HO} : ∀ {c : Cn}, CnOk S c o → (∀ ps, o ≠ .tbl ps) ∧ ∀ φ, o ≠ .ext φ
  | .lst xs, ⟨vs, h1, _⟩ => by subst h1; exact ⟨(fun _ z => by cases z), (fun _ z => by cases z)⟩
  | .dct ks xs, ⟨vs, h1, _⟩ => by subst h1; exact ⟨(fun _ z => by cases z), (fun _ z => by cases z)⟩
  | .obj c fs xs, ⟨dx, vs, h1, _⟩ => by subst h1; exact ⟨(fun _ z => by cases z), (fun _ z => by cases z)⟩

inductive Sl where
  | un | fz (d : D) | own (m : Bool) (c : Cn)
abbrev Ev := List Sl
abbrev XS := Str → Prop

/-- a def's frame: the heap and the shared data at its entry; what it may change -/
structure Fr where
  H0 : Hp
  S0 : Hp
  M : Addr → Prop

/-- all stays but the tables of code objects, which grow -/
structure ExtT (H H' : Hp) : Prop where
  keep : ∀ b o, H b = some o → (∀ ps, o ≠ .tbl ps) → H' b = some o
  ne : ∀ b, H b ≠ none → H' b ≠ none
  tab : ∀ P q, LamX.TabS H P q → LamX.TabS H' P q
theorem same_ne {H H' : Hp} (e : Same H H') {a : Addr} (h : H a ≠ none) : H' a ≠ none := by
  cases q : H a with
  | none => exact absurd q h
  | some o => rw [e a o q]; intro z; cases z
theorem ExtT.of {H H' : Hp} (e : Same H H') : ExtT H H' := ⟨fun b o h _ => e b o h, fun b h => same_ne e h, fun _ _ h => h.ext e⟩
theorem ExtT.refl {H : Hp} : ExtT H H := .of (.refl _)
theorem ExtT.trans {H H1 H2 : Hp} (a : ExtT H H1) (b : ExtT H1 H2) : ExtT H H2 := ⟨fun c o h n => b.keep c o (a.keep c o h n) n, fun c h => b.ne c (a.ne c h), fun P q h => b.tab P q (a.tab P q h)⟩
theorem ExtT.free {H H' : Hp} (e : ExtT H H') {a : Addr} (h : H' a = none) : H a = none := by
  cases q : H a with
  | none => rfl
  | some o => exact absurd h (e.ne a (by rw [q]; intro z; cases z))
theorem ExtT.lst {H H' : Hp} (e : ExtT H H') {a : Addr} {xs : List V} (h : H a = some (.lst xs)) : H' a = some (.lst xs) := e.keep a _ h (fun _ z => by cases z)
theorem ExtT.dK {H H' : Hp} (e : ExtT H H') {a : Addr} {xs : List (Key × V)} (h : H a = some (.dK xs)) : H' a = some (.dK xs) := e.keep a _ h (fun _ z => by cases z)
theorem ExtT.ins {H H' : Hp} (e : ExtT H H') {a C dx : Addr} {xs : List (Str × V)} (h : H a = some (.ins C dx xs)) : H' a = some (.ins C dx xs) := e.keep a _ h (fun _ z => by cases z)
theorem ExtT.cn {H H' S : Hp} (e : ExtT H H') {a : Addr} {o : HO} {c : Cn} (h : H a = some o) (k : CnOk S c o) : H' a = some o := e.keep a _ h k.ntb.1
/-- a thing that is neither a table nor a code object is written -/
theorem ExtT.put {H : Hp} {p : Addr} {o o' : HO} (h : H p = some o) (n1 : ∀ ps, o ≠ .tbl ps) (n2 : ∀ φ, o ≠ .ext φ) : (∀ b, H b ≠ none → upd H p o' b ≠ none) ∧ ∀ P q, LamX.TabS H P q → LamX.TabS (upd H p o') P q := by
  refine ⟨fun b hb => ?_, fun P q ⟨ps, h1, h2, h3⟩ => ⟨ps, ?_, h2, fun pos cv hc => ?_⟩⟩
  · by_cases z : b = p
    · subst z; rw [upd_same]; intro z; cases z
    · rw [upd_ne z]; exact hb
  · rw [upd_ne (fun z => n1 ps (by rw [z, h] at h1; exact Option.some.inj h1))]
    exact h1
  · obtain ⟨c, e1, e2⟩ := h3 pos cv hc
    refine ⟨c, e1, ?_⟩
    rw [upd_ne (fun z => n2 _ (by rw [z, h] at e2; exact Option.some.inj e2))]
    exact e2
theorem ExtT.lay {H H' : Hp} (e : ExtT H H') {p : Addr} {o : HO} (h : H' p = none) : ExtT H (upd H' p o) := e.trans (.of fun b x z => by
  rw [upd_ne (ne_of_none z h)]
  exact z)
theorem ExtT.over {H H' : Hp} (e : ExtT H H') {p : Addr} {o o' : HO} (h0 : H p = none) (h : H' p = some o) (n1 : ∀ ps, o ≠ .tbl ps) (n2 : ∀ φ, o ≠ .ext φ) : ExtT H (upd H' p o') := by
  have et := ExtT.put (o' := o') h n1 n2
  refine ⟨fun b x hb n => ?_, fun b hb => et.1 b (e.ne b hb), fun P q hq => et.2 P q (e.tab P q hq)⟩
  rw [upd_ne (ne_of_none hb h0)]
  exact e.keep b x hb n
/-- the heap grows, the shared data with it -/
structure Grow (H S H' S' : Hp) : Prop where
  hh : ExtT H H'
  ss : Same S S'
  sh : Same S' H'
  nw : ∀ a, H a ≠ none → S' a = S a
structure FGrow (F : Fr) (H S : Hp) : Prop where
  hh : ∀ a o, ¬ F.M a → F.H0 a = some o → (∀ ps, o ≠ .tbl ps) → H a = some o
  al : ∀ a, F.H0 a ≠ none → H a ≠ none
  ss : Same F.S0 S
  sh : Same S H
  nw : ∀ a, F.H0 a ≠ none → S a = F.S0 a
  ft : ∀ P q, LamX.TabS F.H0 P q → LamX.TabS H P q
  tb : LamX.Tabs KC.T H
section
variable {F : Fr} {H S H1 S1 H2 S2 : Hp}
theorem Grow.refl (e : Same S H) : Grow H S H S := ⟨.refl, .refl _, e, fun _ _ => rfl⟩
theorem Grow.trans (a : Grow H S H1 S1) (b : Grow H1 S1 H2 S2) : Grow H S H2 S2 :=
  ⟨a.hh.trans b.hh, a.ss.trans b.ss, b.sh, fun x h => (b.nw x (a.hh.ne _ h)).trans (a.nw x h)⟩
theorem FGrow.grow (f : FGrow F H S) (g : Grow H S H1 S1) : FGrow F H1 S1 :=
  ⟨fun a o m h n => g.hh.keep a o (f.hh a o m h n) n, fun a h => g.hh.ne _ (f.al a h), f.ss.trans g.ss, g.sh, fun a h => (g.nw a (f.al a h)).trans (f.nw a h), fun P q h => g.hh.tab P q (f.ft P q h), fun p hp => g.hh.tab _ _ (f.tb p hp)⟩
theorem same_upd {p : Addr} {o : HO} (h : H p = none) : Same H (upd H p o) := fun b x e => by
  rw [upd_ne (ne_of_none e h)]
  exact e
theorem same_upd2 {p : Addr} {o : HO} (e : Same S H) (h : H p = some o) : Same (upd S p o) H := fun b x q => by
  by_cases z : b = p
  · subst z
    rw [upd_same] at q
    rw [h]
    exact q
  · rw [upd_ne z] at q
    exact e b x q
/-- a new thing is laid, not shared -/
theorem Grow.lay {p : Addr} {o : HO} (g : Grow H S H1 S1) (h : H1 p = none) : Grow H S (upd H1 p o) S1 :=
  ⟨g.hh.lay h, g.ss, g.sh.trans (same_upd h), g.nw⟩
/-- a new thing is shared -/
theorem Grow.share {p : Addr} {o : HO} (g : Grow H S H1 S1) (h : H p = none) (h1 : S1 p = none) (h2 : H1 p = some o) : Grow H S H1 (upd S1 p o) :=
  ⟨g.hh, g.ss.trans (same_upd h1), same_upd2 g.sh h2, fun a ha => by
    rw [upd_ne (fun z => ha (by rw [z]; exact h))]
    exact g.nw a ha⟩
theorem Grow.freeS (g : Grow H S H1 S1) {p : Addr} (h : H1 p = none) : S1 p = none := g.sh.free h
theorem Grow.freeH (g : Grow H S H1 S1) {p : Addr} (h : H1 p = none) : H p = none := g.hh.free h
end

/-- what stands at a slot -/
def SlOk (F : Fr) (H S : Hp) : Sl → Option (Option V) → Prop
  | .un, _ => True
  | .fz d, x => ∃ v, x = some (some v) ∧ Dat S d v
  | .own m c, x => ∃ p o, x = some (some (.ref p)) ∧ S p = none ∧ H p = some o ∧ CnOk S c o ∧ (m = true → F.M p) ∧ (m = false → F.H0 p = none)
structure Rep (F : Fr) (ρ : Ev) (σ : St) (H S : Hp) : Prop where
  fg : FGrow F H S
  len : σ.length = ρ.length
  at' : ∀ (i : Nat) (sl : Sl), ρ[i]? = some sl → SlOk F H S sl σ[i]?
  dist : ∀ (i j : Nat) (m m' : Bool) (c c' : Cn), i ≠ j → ρ[i]? = some (.own m c) → ρ[j]? = some (.own m' c') → σ[i]? ≠ σ[j]?
section
variable {F : Fr} {ρ : Ev} {σ : St} {H S H1 S1 : Hp}
theorem Rep.sh (r : Rep F ρ σ H S) : Same S H := r.fg.sh
theorem SlOk.grow (g : Grow H S H1 S1) : ∀ {sl : Sl} {x : Option (Option V)}, SlOk F H S sl x → SlOk F H1 S1 sl x
  | .un, _, _ => trivial
  | .fz d, _, ⟨v, e, h⟩ => ⟨v, e, Dat.mono g.ss d v h⟩
  | .own m c, _, ⟨p, o, e, h1, h2, h3, h4⟩ => ⟨p, o, e, by rw [g.nw p (by rw [h2]; intro z; cases z)]; exact h1, g.hh.cn h2 h3, h3.mono g.ss, h4⟩
theorem Rep.grow (r : Rep F ρ σ H S) (g : Grow H S H1 S1) : Rep F ρ σ H1 S1 :=
  ⟨r.fg.grow g, r.len, fun i sl h => (r.at' i sl h).grow g, r.dist⟩
theorem Rep.fz {i : Nat} {d : D} (r : Rep F ρ σ H S) (h : ρ[i]? = some (.fz d)) : ∃ v, σ[i]? = some (some v) ∧ Dat S d v := r.at' i _ h
theorem Rep.own {i : Nat} {m : Bool} {c : Cn} (r : Rep F ρ σ H S) (h : ρ[i]? = some (.own m c)) :
    ∃ p o, σ[i]? = some (some (.ref p)) ∧ S p = none ∧ H p = some o ∧ CnOk S c o ∧ (m = true → F.M p) ∧ (m = false → F.H0 p = none) := r.at' i _ h
/-- a slot is set to shared data -/
theorem Rep.set {i : Nat} {d : D} {v : V} (r : Rep F ρ σ H S) (h : Dat S d v) : Rep F (ρ.set i (.fz d)) (σ.set i (some v)) H S := by
  refine ⟨r.fg, by simp [r.len], fun j sl e => ?_, fun j k m m' c c' n e1 e2 => ?_⟩
  · by_cases z : i = j
    · subst z
      by_cases hl : i < ρ.length
      · rw [List.getElem?_set_self hl] at e
        cases e
        exact ⟨v, by rw [List.getElem?_set_self (by rw [r.len]; exact hl)], h⟩
      · rw [List.getElem?_eq_none (by simpa using hl)] at e
        cases e
    · rw [List.getElem?_set_ne z] at e ⊢
      exact r.at' j sl e
  · have z1 : i ≠ j := fun z => by
      subst z
      rw [List.getElem?_set] at e1
      simp at e1
    have z2 : i ≠ k := fun z => by
      subst z
      rw [List.getElem?_set] at e2
      simp at e2
    rw [List.getElem?_set_ne z1] at e1 ⊢
    rw [List.getElem?_set_ne z2] at e2 ⊢
    exact r.dist j k m m' c c' n e1 e2
/-- a slot is set to a new thing of its own -/
theorem Rep.setOwn {i : Nat} {c : Cn} {p : Addr} {o : HO} (r : Rep F ρ σ H S) (hS : S p = none) (hH : H p = some o) (hc : CnOk S c o) (h0 : F.H0 p = none)
    (hd : ∀ (j : Nat) (m : Bool) (c' : Cn), ρ[j]? = some (.own m c') → σ[j]? ≠ some (some (.ref p))) : Rep F (ρ.set i (.own false c)) (σ.set i (some (.ref p))) H S := by
  refine ⟨r.fg, by simp [r.len], fun j sl e => ?_, fun j k m m' c1 c2 n e1 e2 => ?_⟩
  · by_cases z : i = j
    · subst z
      by_cases hl : i < ρ.length
      · rw [List.getElem?_set_self hl] at e
        cases e
        exact ⟨p, o, by rw [List.getElem?_set_self (by rw [r.len]; exact hl)], hS, hH, hc, fun z => (by cases z), fun _ => h0⟩
      · rw [List.getElem?_eq_none (by simpa using hl)] at e
        cases e
    · rw [List.getElem?_set_ne z] at e ⊢
      exact r.at' j sl e
  · by_cases z1 : i = j
    · have z2 : i ≠ k := fun z => n (z1.symm.trans z)
      subst z1
      rw [List.getElem?_set_ne z2] at e2 ⊢
      by_cases hl : i < ρ.length
      · rw [List.getElem?_set_self (by rw [r.len]; exact hl)]
        exact fun z => hd k m' c2 e2 z.symm
      · rw [List.getElem?_eq_none (by simpa using hl)] at e1
        cases e1
    · rw [List.getElem?_set_ne z1] at e1 ⊢
      by_cases z2 : i = k
      · subst z2
        by_cases hl : i < ρ.length
        · rw [List.getElem?_set_self (by rw [r.len]; exact hl)]
          exact hd j m c1 e1
        · rw [List.getElem?_eq_none (by simpa using hl)] at e2
          cases e2
      · rw [List.getElem?_set_ne z2] at e2 ⊢
        exact r.dist j k m m' c1 c2 n e1 e2
/-- an owned thing is changed -/
theorem Rep.put {i : Nat} {m : Bool} {c c' : Cn} {p : Addr} {o' : HO} (r : Rep F ρ σ H S) (h : ρ[i]? = some (.own m c)) (hp : σ[i]? = some (some (.ref p))) (hc : CnOk S c' o') :
    Rep F (ρ.set i (.own m c')) σ (upd H p o') S := by
  obtain ⟨p', o1, e1, e2, e3, e4, e5, e6⟩ := r.own h
  have : p' = p := by
    rw [e1] at hp
    cases hp
    rfl
  subst this
  have hl : i < ρ.length := by
    rcases Nat.lt_or_ge i ρ.length with q | q
    · exact q
    · rw [List.getElem?_eq_none q] at h
      cases h
  have et := ExtT.put (o' := o') e3 e4.ntb.1 e4.ntb.2
  refine ⟨⟨fun a u hm ha nt => ?_, fun a ha => ?_, r.fg.ss, fun a u ha => ?_, r.fg.nw, fun P q h => et.2 P q (r.fg.ft P q h), fun P h => et.2 _ _ (r.fg.tb P h)⟩, by simp [r.len], fun j sl e => ?_, fun j k m1 m2 c1 c2 n q1 q2 => ?_⟩
  · have ne : a ≠ p' := fun z => by
      subst z
      cases m with
      | true => exact hm (e5 rfl)
      | false => rw [e6 rfl] at ha; cases ha
    rw [upd_ne ne]
    exact r.fg.hh a u hm ha nt
  · by_cases z : a = p'
    · subst z
      rw [upd_same]
      intro z
      cases z
    · rw [upd_ne z]
      exact r.fg.al a ha
  · rw [upd_ne (fun z => by rw [z, e2] at ha; cases ha)]
    exact r.fg.sh a u ha
  · by_cases z : i = j
    · subst z
      rw [List.getElem?_set_self hl] at e
      cases e
      exact ⟨p', o', hp, e2, upd_same, hc, e5, e6⟩
    · rw [List.getElem?_set_ne z] at e
      have q := r.at' j sl e
      cases sl with
      | un => trivial
      | fz d => exact q
      | own m3 c3 =>
        obtain ⟨p3, o3, f1, f2, f3, f4, f5⟩ := q
        refine ⟨p3, o3, f1, f2, ?_, f4, f5⟩
        rw [upd_ne (fun z3 => r.dist i j m m3 c c3 z h e (by rw [hp, f1, z3]))]
        exact f3
  · have conv : ∀ (l : Nat) (m4 : Bool) (c4 : Cn), (ρ.set i (.own m c'))[l]? = some (.own m4 c4) → ∃ m5 c5, ρ[l]? = some (.own m5 c5) := fun l m4 c4 q => by
      by_cases z : i = l
      · subst z
        exact ⟨m, c, h⟩
      · rw [List.getElem?_set_ne z] at q
        exact ⟨_, _, q⟩
    obtain ⟨_, _, w1⟩ := conv _ _ _ q1
    obtain ⟨_, _, w2⟩ := conv _ _ _ q2
    exact r.dist j k _ _ _ _ n w1 w2
/-- an owned thing is shared from here on -/
theorem Rep.frz {i : Nat} {c : Cn} (r : Rep F ρ σ H S) (h : ρ[i]? = some (.own false c)) : ∃ S', Rep F (ρ.set i (.fz c.d)) σ H S' := by
  obtain ⟨p, o, e1, e2, e3, e4, _, e6⟩ := r.own h
  have h0 := e6 rfl
  have hl : i < ρ.length := by
    rcases Nat.lt_or_ge i ρ.length with q | q
    · exact q
    · rw [List.getElem?_eq_none q] at h
      cases h
  have ss : Same S (upd S p o) := same_upd e2
  refine ⟨upd S p o, ⟨r.fg.hh, r.fg.al, r.fg.ss.trans ss, same_upd2 r.fg.sh e3, fun a ha => ?_, r.fg.ft, r.fg.tb⟩, by simp [r.len], fun j sl e => ?_, fun j k m1 m2 c1 c2 n q1 q2 => ?_⟩
  · rw [upd_ne (fun z => ha (by rw [z]; exact h0))]
    exact r.fg.nw a ha
  · by_cases z : i = j
    · subst z
      rw [List.getElem?_set_self hl] at e
      cases e
      exact ⟨.ref p, e1, CnOk.dat upd_same (e4.mono ss)⟩
    · rw [List.getElem?_set_ne z] at e
      have q := r.at' j sl e
      cases sl with
      | un => trivial
      | fz d =>
        obtain ⟨v, f1, f2⟩ := q
        exact ⟨v, f1, Dat.mono ss d v f2⟩
      | own m3 c3 =>
        obtain ⟨p3, o3, f1, f2, f3, f4, f5⟩ := q
        refine ⟨p3, o3, f1, ?_, f3, f4.mono ss, f5⟩
        rw [upd_ne (fun z3 => r.dist i j false m3 c c3 z h e (by rw [e1, f1, z3]))]
        exact f2
  · have conv : ∀ (l : Nat) (m4 : Bool) (c4 : Cn), (ρ.set i (.fz c.d))[l]? = some (.own m4 c4) → ρ[l]? = some (.own m4 c4) := fun l m4 c4 q => by
      by_cases z : i = l
      · subst z
        rw [List.getElem?_set_self hl] at q
        cases q
      · rw [List.getElem?_set_ne z] at q
        exact q
    exact r.dist j k _ _ _ _ n (conv _ _ _ q1) (conv _ _ _ q2)
theorem Rep.unset {i : Nat} {x : Option V} (r : Rep F ρ σ H S) : Rep F (ρ.set i .un) (σ.set i x) H S := by
  refine ⟨r.fg, by simp [r.len], fun j sl e => ?_, fun j k m m' c c' n e1 e2 => ?_⟩
  · by_cases z : i = j
    · subst z
      by_cases hl : i < ρ.length
      · rw [List.getElem?_set_self hl] at e
        cases e
        trivial
      · rw [List.getElem?_eq_none (by simpa using hl)] at e
        cases e
    · rw [List.getElem?_set_ne z] at e ⊢
      exact r.at' j sl e
  · have z1 : i ≠ j := fun z => by
      subst z
      rw [List.getElem?_set] at e1
      simp at e1
    have z2 : i ≠ k := fun z => by
      subst z
      rw [List.getElem?_set] at e2
      simp at e2
    rw [List.getElem?_set_ne z1] at e1 ⊢
    rw [List.getElem?_set_ne z2] at e2 ⊢
    exact r.dist j k m m' c c' n e1 e2
end
end NL

namespace NL
open PySem PySem.Spec L2
open PyProof.Rows hiding St

/-- simp leaves alone what a mark speaks of -/
structure Tg {α : Sort u} (a : α) : Type where
/-- one of two ways -/
def Br (b : Bool) (A B : Prop) (_ : Tg A) (_ : Tg B) : Prop := match b with
  | true => A
  | false => B
theorem Br_true {A B : Prop} {s : Tg A} {t : Tg B} : Br true A B s t = A := rfl
theorem Br_false {A B : Prop} {s : Tg A} {t : Tg B} : Br false A B s t = B := rfl
theorem Br_not {b : Bool} {A B : Prop} {s : Tg A} {t : Tg B} : Br (!b) A B s t = Br b B A t s := by cases b <;> rfl
theorem Br.i {b : Bool} {A B : Prop} {s : Tg A} {t : Tg B} (h1 : b = true → A) (h2 : b = false → B) : Br b A B s t := by
  cases b with
  | true => exact h1 rfl
  | false => exact h2 rfl
theorem Br.d {p : Prop} [Decidable p] {A B : Prop} {s : Tg A} {t : Tg B} (h1 : p → A) (h2 : ¬ p → B) : Br (decide p) A B s t :=
  .i (fun h => h1 (of_decide_eq_true h)) fun h => h2 (of_decide_eq_false h)
theorem Br.t {p : Prop} [Decidable p] {A B : Prop} {s : Tg A} {t : Tg B} (h : p) (h1 : A) : Br (decide p) A B s t := .d (fun _ => h1) fun z => absurd h z
theorem Br.f {p : Prop} [Decidable p] {A B : Prop} {s : Tg A} {t : Tg B} (h : ¬ p) (h1 : B) : Br (decide p) A B s t := .d (fun z => absurd z h) fun _ => h1
variable [KC]
/-! ### what an exception is wished for -/
structure XOk (X : Cx) (E : XK) : Prop where
  pass : Passes (L2.CX X.prog X.w) X E
  take : Takes X (fun cls d _ H => E cls d H)
  own : PassesOwn (model X.prog X.w) X.A X.env X.xe
theorem xkb {X : Cx} {s : Shared} {H : Hp} {sc : Scope} {cenv : Env} {fp : List Addr} : XOk (X.blk s H sc cenv fp) E0 := ⟨passL, takes0, PassesOwn.never⟩
def ExOk (mg : Str → Option Value) (E : XK) (x : XS) (H S : Hp) : Prop := ∀ n C H' S', x n → mg n = some (.ref C) → Grow H S H' S' → E (.ref C) none H'
theorem ExOk.grow {mg : Str → Option Value} {E : XK} {x : XS} {H S H1 S1 : Hp} (h : ExOk mg E x H S) (g : Grow H S H1 S1) : ExOk mg E x H1 S1 :=
  fun n C H' S' a b c => h n C H' S' a b (g.trans c)

/-! ### data that is read: the thing itself may be owned by a slot -/
def BDat (H S : Hp) : D → V → Prop
  | .lst xs, v => ∃ a vs, v = .ref a ∧ H a = some (.lst vs) ∧ Dats S xs vs
  | .dct ks xs, v => ∃ a kvs, v = .ref a ∧ H a = some (.dK kvs) ∧ kvs.map (·.1) = ks ∧ Dats S xs (kvs.map (·.2))
  | .obj c fs xs, v => ∃ a dx kvs, v = .ref a ∧ H a = some (.ins (KC.ca c) dx kvs) ∧ kvs.map (·.1) = fs ∧ Dats S xs (kvs.map (·.2))
  | d, v => Dat S d v
section
variable {H S H1 S1 : Hp}
theorem BDat.of (sh : Same S H) : ∀ {d : D} {v : V}, Dat S d v → BDat H S d v
  | .lst xs, v, h => by
    unfold Dat at h
    obtain ⟨a, vs, e, r, q⟩ := h
    exact ⟨a, vs, e, sh _ _ r, q⟩
  | .dct ks xs, v, h => by
    unfold Dat at h
    obtain ⟨a, vs, e, r, q, z⟩ := h
    exact ⟨a, vs, e, sh _ _ r, q, z⟩
  | .dkz _ _, _, h => h
  | .obj c fs xs, v, h => by
    unfold Dat at h
    obtain ⟨a, o, vs, e, r, q, z⟩ := h
    exact ⟨a, o, vs, e, sh _ _ r, q, z⟩
  | .non, _, h => h
  | .bl _, _, h => h
  | .int _, _, h => h
  | .str _, _, h => h
  | .ref _, _, h => h
  | .scr _, _, h => h
  | .tup _, _, h => h
theorem BDat.full (sh : Same S H) : ∀ {d : D} {v : V}, BDat H S d v → Dat H d v
  | .lst xs, v, ⟨a, vs, e, r, q⟩ => by
    unfold Dat
    exact ⟨a, vs, e, r, Dats.mono sh _ _ q⟩
  | .dct ks xs, v, ⟨a, vs, e, r, q, z⟩ => by
    unfold Dat
    exact ⟨a, vs, e, r, q, Dats.mono sh _ _ z⟩
  | .dkz ks xs, v, h => Dat.mono sh (.dkz ks xs) v h
  | .obj c fs xs, v, ⟨a, dx, vs, e, r, q, z⟩ => by
    unfold Dat
    exact ⟨a, dx, vs, e, r, q, Dats.mono sh _ _ z⟩
  | .non, _, h => h
  | .bl _, _, h => h
  | .int _, _, h => h
  | .str _, _, h => h
  | .ref _, _, h => h
  | .scr ns, v, h => Dat.mono sh (.scr ns) v h
  | .tup xs, v, h => Dat.mono sh (.tup xs) v h
theorem BDat.grow (g : Grow H S H1 S1) : ∀ {d : D} {v : V}, BDat H S d v → BDat H1 S1 d v
  | .lst xs, v, ⟨a, vs, e, r, q⟩ => ⟨a, vs, e, g.hh.lst r, Dats.mono g.ss _ _ q⟩
  | .dct ks xs, v, ⟨a, vs, e, r, q, z⟩ => ⟨a, vs, e, g.hh.dK r, q, Dats.mono g.ss _ _ z⟩
  | .dkz ks xs, v, h => Dat.mono g.ss (.dkz ks xs) v h
  | .obj c fs xs, v, ⟨a, dx, vs, e, r, q, z⟩ => ⟨a, dx, vs, e, g.hh.ins r, q, Dats.mono g.ss _ _ z⟩
  | .non, _, h => h
  | .bl _, _, h => h
  | .int _, _, h => h
  | .str _, _, h => h
  | .ref _, _, h => h
  | .scr ns, v, h => Dat.mono g.ss (.scr ns) v h
  | .tup xs, v, h => Dat.mono g.ss (.tup xs) v h
end

abbrev WE := XS → Ev → (D → Prop) → Prop
abbrev WL := XS → Ev → (List D → Prop) → Prop
abbrev WT := XS → Ev → (Bool → Prop) → Prop

/-- an expression that tells shared data -/
structure ED (X : Cx) (E : XK) (e : Expr) (w : WE) : Prop where
  ex : ∃ t, PE X e t ∧ ∀ (x : XS) (ρ : Ev) (Q : D → Prop), w x ρ Q → ∀ (F : Fr) (σ : L2.St) (H S : Hp) (Q' : VK), Rep F ρ σ H S → ExOk X.mg E x H S →
    (∀ d v H' S', Q d → Grow H S H' S' → Dat S' d v → Q' v H') → t σ H Q'
/-- .. data to be read -/
structure BD (X : Cx) (E : XK) (e : Expr) (w : WE) : Prop where
  ex : ∃ t, PE X e t ∧ ∀ (x : XS) (ρ : Ev) (Q : D → Prop), w x ρ Q → ∀ (F : Fr) (σ : L2.St) (H S : Hp) (Q' : VK), Rep F ρ σ H S → ExOk X.mg E x H S →
    (∀ d v H' S', Q d → Grow H S H' S' → BDat H' S' d v → Q' v H') → t σ H Q'
/-- .. a new list, nobody else's -/
structure DF (X : Cx) (E : XK) (e : Expr) (w : WL) : Prop where
  ex : ∃ t, PE X e t ∧ ∀ (x : XS) (ρ : Ev) (Q : List D → Prop), w x ρ Q → ∀ (F : Fr) (σ : L2.St) (H S : Hp) (Q' : VK), Rep F ρ σ H S → ExOk X.mg E x H S →
    (∀ xs p vs H' S', Q xs → Grow H S H' S' → H p = none → S' p = none → H' p = some (.lst vs) → Dats S' xs vs → Q' (.ref p) H') → t σ H Q'
/-- a test -/
structure TD (X : Cx) (E : XK) (e : Expr) (w : WT) : Prop where
  ex : ∃ t, PT X e t ∧ ∀ (x : XS) (ρ : Ev) (Q : Bool → Prop), w x ρ Q → ∀ (F : Fr) (σ : L2.St) (H S : Hp) (Q' : Bool → Hp → Prop), Rep F ρ σ H S → ExOk X.mg E x H S →
    (∀ b H' S', Q b → Grow H S H' S' → Q' b H') → t σ H Q'
structure WD (X : Cx) (E : XK) (e : Expr) (w : WT) : Prop where
  ex : ∃ t, PW X e t ∧ ∀ (x : XS) (ρ : Ev) (Q : Bool → Prop), w x ρ Q → ∀ (F : Fr) (σ : L2.St) (H S : Hp) (Q' : Bool → Hp → Prop), Rep F ρ σ H S → ExOk X.mg E x H S →
    (∀ b H' S', Q b → Grow H S H' S' → Q' b H') → t σ H Q'
/-- arguments, shared -/
structure AD (X : Cx) (E : XK) (es : List Expr) (w : WL) : Prop where
  ex : ∃ t, PA X es t ∧ ∀ (x : XS) (ρ : Ev) (Q : List D → Prop), w x ρ Q → ∀ (F : Fr) (σ : L2.St) (H S : Hp) (Q' : List V → Hp → Prop), Rep F ρ σ H S → ExOk X.mg E x H S →
    (∀ ds vs H' S', Q ds → Grow H S H' S' → Dats S' ds vs → Q' vs H') → t σ H Q'
/-- data read, side by side -/
def BDats (H S : Hp) : List D → List V → Prop
  | [], vs => vs = []
  | d :: ds, vs => ∃ v r, vs = v :: r ∧ BDat H S d v ∧ BDats H S ds r
theorem BDats.grow {H S H1 S1 : Hp} (g : Grow H S H1 S1) : ∀ {ds : List D} {vs : List V}, BDats H S ds vs → BDats H1 S1 ds vs
  | [], _, h => h
  | d :: ds, vs, ⟨v, r, e, h, q⟩ => ⟨v, r, e, h.grow g, BDats.grow g q⟩
theorem BDats.of {H S : Hp} (sh : Same S H) : ∀ {ds : List D} {vs : List V}, Dats S ds vs → BDats H S ds vs
  | [], _, h => by unfold Dats at h; exact h
  | d :: ds, vs, h => by
    unfold Dats at h
    obtain ⟨v, r, e, h, q⟩ := h
    exact ⟨v, r, e, BDat.of sh h, BDats.of sh q⟩
/-- arguments, read -/
structure AB (X : Cx) (E : XK) (es : List Expr) (w : WL) : Prop where
  ex : ∃ t, PA X es t ∧ ∀ (x : XS) (ρ : Ev) (Q : List D → Prop), w x ρ Q → ∀ (F : Fr) (σ : L2.St) (H S : Hp) (Q' : List V → Hp → Prop), Rep F ρ σ H S → ExOk X.mg E x H S →
    (∀ ds vs H' S', Q ds → Grow H S H' S' → BDats H' S' ds vs → Q' vs H') → t σ H Q'

section
variable {X : Cx} {E : XK} {e a b : Expr} {es : List Expr} {pos : Pos} {w wa wb : WE} {wl : WL}

/-! ### from one kind to another -/
theorem bd (h : ED X E e w) : BD X E e w := by
  obtain ⟨t, p, s⟩ := h.ex
  exact ⟨t, p, fun x ρ Q hw F σ H S Q' r ex k => s x ρ Q hw F σ H S Q' r ex fun d v H' S' q g hd => k d v H' S' q g (BDat.of g.sh hd)⟩
/-- a new list is shared at once -/
def wNew (wl : WL) : WE := fun x ρ Q => wl x ρ fun xs => Q (.lst xs)
theorem ed_new (h : DF X E e wl) : ED X E e (wNew wl) := by
  obtain ⟨t, p, s⟩ := h.ex
  refine ⟨t, p, fun x ρ Q hw F σ H S Q' r ex k => s x ρ _ hw F σ H S Q' r ex fun xs p vs H' S' q g h0 h1 h2 hd => ?_⟩
  refine k _ _ H' (upd S' p (.lst vs)) q (g.share h0 h1 h2) ?_
  unfold Dat
  exact ⟨p, vs, rfl, upd_same, Dats.mono (same_upd h1) _ _ hd⟩
theorem bd_new (h : DF X E e wl) : BD X E e (wNew wl) := bd (ed_new h)

/-! ### names and constants -/
def wVar (i : Nat) : WE := fun _ ρ Q => match ρ[i]? with
  | some (.fz d) => Q d
  | _ => False
theorem ed_var (i : Nat) {x : Str} (hN : X.N[i]? = some x := by rfl) (hv : Vis X.env.scope x := by first | exact Or.inl rfl | exact Or.inr (Or.inl rfl) | exact Or.inr (Or.inr rfl)) (hd : (x == ("__debug__" : Str)) = false := by decide)
    (hcd : (x == ("__classdict__" : Str)) = false := by decide) : ED X E (.Name x pos) (wVar i) := by
  refine ⟨_, pe_var hN hv hd hcd, fun x ρ Q hw F σ H S Q' r ex k => ?_⟩
  unfold wVar at hw
  split at hw
  · rename_i d hi
    obtain ⟨v, e, h⟩ := r.fz hi
    exact ⟨v, e, k d v H S hw (.refl r.sh) h⟩
  · exact hw.elim
/-- a slot's own thing, read -/
def wOwn (i : Nat) : WE := fun _ ρ Q => match ρ[i]? with
  | some (.own _ c) => Q c.d
  | some (.fz d) => Q d
  | _ => False
theorem bd_own (i : Nat) {x : Str} (hN : X.N[i]? = some x := by rfl) (hv : Vis X.env.scope x := by first | exact Or.inl rfl | exact Or.inr (Or.inl rfl) | exact Or.inr (Or.inr rfl)) (hd : (x == ("__debug__" : Str)) = false := by decide)
    (hcd : (x == ("__classdict__" : Str)) = false := by decide) : BD X E (.Name x pos) (wOwn i) := by
  refine ⟨_, pe_var hN hv hd hcd, fun x ρ Q hw F σ H S Q' r ex k => ?_⟩
  unfold wOwn at hw
  split at hw
  · rename_i m c hi
    obtain ⟨p, o, e, h1, h2, h3, _⟩ := r.own hi
    refine ⟨.ref p, e, k c.d _ H S hw (.refl r.sh) ?_⟩
    cases c with
    | lst xs =>
      obtain ⟨vs, rfl, q⟩ := h3
      exact ⟨p, vs, rfl, h2, q⟩
    | dct ks xs =>
      obtain ⟨vs, rfl, q, q2⟩ := h3
      exact ⟨p, vs, rfl, h2, q, q2⟩
    | obj c fs xs =>
      obtain ⟨dx, vs, rfl, q, q2⟩ := h3
      exact ⟨p, dx, vs, rfl, h2, q, q2⟩
  · rename_i d hi
    obtain ⟨v, e, h⟩ := r.fz hi
    exact ⟨v, e, k d v H S hw (.refl r.sh) (BDat.of r.sh h)⟩
  · exact hw.elim
def wC (d : D) : WE := fun _ _ Q => Q d
theorem ed_int {i j} : ED X E (.Constant (.int i) j pos) (wC (.int i)) :=
  ⟨_, pe_int, fun x ρ Q hw F σ H S Q' r ex k => k _ _ H S hw (.refl r.sh) (by unfold Dat; rfl)⟩
theorem ed_bl {i j} : ED X E (.Constant (.bool i) j pos) (wC (.bl i)) :=
  ⟨_, pe_bl, fun x ρ Q hw F σ H S Q' r ex k => k _ _ H S hw (.refl r.sh) (by unfold Dat; rfl)⟩
theorem ed_non {j} : ED X E (.Constant .none j pos) (wC .non) :=
  ⟨_, pe_non, fun x ρ Q hw F σ H S Q' r ex k => k _ _ H S hw (.refl r.sh) (by unfold Dat; rfl)⟩
theorem ed_str {i j} : ED X E (.Constant (.str i) j pos) (wC (.str i)) :=
  ⟨_, pe_str, fun x ρ Q hw F σ H S Q' r ex k => k _ _ H S hw (.refl r.sh) (by unfold Dat; rfl)⟩
/-- a constant text of the module -/
theorem ed_glob {x : Str} {u : Value} {d : D} {v : V} (hg : Gl X x) (hm : X.mg x = some u) (r : RelV v u) (hd : ∀ S, Dat S d v) (hdb : (x == ("__debug__" : Str)) = false := by decide) : ED X E (.Name x pos) (wC d) :=
  ⟨_, pe_glob hg hm r hdb, fun x ρ Q hw F σ H S Q' r ex k => k _ _ H S hw (.refl r.sh) (hd S)⟩

/-! ### operators -/
structure OpD (X : Cx) (f : Value → Value → Sem Value) (g : D → D → (D → Prop) → Prop) : Prop where
  ex : ∃ r : R2, OpR X f r ∧ ∀ (d e : D) (Q : D → Prop), g d e Q → ∀ (H S : Hp) (u v : V) (Q' : VK), Same S H → BDat H S d u → BDat H S e v → (∀ z y H' S', Q z → Grow H S H' S' → Dat S' z y → Q' y H') → r u v H Q'
def wOp (g : D → D → (D → Prop) → Prop) (wa wb : WE) : WE := fun x ρ Q => wa x ρ fun d => wb x ρ fun e => g d e Q
theorem op_sound {f : Value → Value → Sem Value} {g : D → D → (D → Prop) → Prop} (ho : OpD X f g) (ha : BD X E a wa) (hb : BD X E b wb) : ∃ r ta tb, OpR X f r ∧ PE X a ta ∧ PE X b tb ∧
    ∀ (x : XS) (ρ : Ev) (Q : D → Prop), wOp g wa wb x ρ Q → ∀ (F : Fr) (σ : L2.St) (H S : Hp) (Q' : VK), Rep F ρ σ H S → ExOk X.mg E x H S →
    (∀ d v H' S', Q d → Grow H S H' S' → Dat S' d v → Q' v H') → tOp r ta tb σ H Q' := by
  obtain ⟨r, o, so⟩ := ho.ex
  obtain ⟨ta, pa, sa⟩ := ha.ex
  obtain ⟨tb, pb, sb⟩ := hb.ex
  refine ⟨r, ta, tb, o, pa, pb, fun x ρ Q hw F σ H S Q' rp ex k => ?_⟩
  refine sa x ρ _ hw F σ H S _ rp ex fun d u H1 S1 q1 g1 h1 => ?_
  refine sb x ρ _ q1 F σ H1 S1 _ (rp.grow g1) (ex.grow g1) fun e v H2 S2 q2 g2 h2 => ?_
  exact so d e Q q2 H2 S2 u v Q' g2.sh (h1.grow g2) h2 fun z y H3 S3 q3 g3 h3 => k z y H3 S3 q3 ((g1.trans g2).trans g3) h3
theorem ed_op {op : Operator} {g : D → D → (D → Prop) → Prop} (ho : OpD X (binaryOp op) g) (ha : BD X E a wa) (hb : BD X E b wb) : ED X E (.BinOp a op b pos) (wOp g wa wb) := by
  obtain ⟨r, ta, tb, o, pa, pb, s⟩ := op_sound ho ha hb
  exact ⟨_, pe_op o pa pb, s⟩
theorem ed_cmp {op : CmpOp} {g : D → D → (D → Prop) → Prop} (ho : OpD X (compareOp op) g) (ha : BD X E a wa) (hb : BD X E b wb) (hm : behindInMarks op b = false := by first | exact nomark _ | with_unfolding_all rfl) : ED X E (.Compare a [op] [b] pos) (wOp g wa wb) := by
  obtain ⟨r, ta, tb, o, pa, pb, s⟩ := op_sound ho ha hb
  exact ⟨_, pe_cmpR o pa pb hm, s⟩
/-- the truth that a comparison tells -/
def onBl (Q : Bool → Prop) : D → Prop
  | .bl k => Q k
  | _ => False
theorem onBl_sound {Q : Bool → Prop} {d : D} {S : Hp} {v : V} (h : onBl Q d) (hd : Dat S d v) : ∃ k, v = .bl k ∧ Q k := by
  cases d with
  | bl k => unfold Dat at hd; exact ⟨k, hd, h⟩
  | _ => exact h.elim
def wtOn (w : WE) : WT := fun x ρ Q => w x ρ (onBl Q)
theorem td_cmp {op : CmpOp} {g : D → D → (D → Prop) → Prop} (ho : OpD X (compareOp op) g) (ha : BD X E a wa) (hb : BD X E b wb) (hm : behindInMarks op b = false := by first | exact nomark _ | with_unfolding_all rfl) :
    TD X E (.Compare a [op] [b] pos) (wtOn (wOp g wa wb)) := by
  obtain ⟨r, ta, tb, o, pa, pb, s⟩ := op_sound ho ha hb
  refine ⟨_, pt_cmpR o pa pb hm, fun x ρ Q hw F σ H S Q' rp ex k => ?_⟩
  refine s x ρ _ hw F σ H S _ rp ex fun d v H' S' q g hd => ?_
  obtain ⟨b, rfl, q⟩ := onBl_sound q hd
  exact ⟨b, rfl, k b H' S' q g⟩
def wChain (g g' : D → D → (D → Prop) → Prop) (wa wb wc : WE) : WE := fun x ρ Q => wa x ρ fun d => wb x ρ fun e => g d e (onBl fun k => Br k (wc x ρ fun f => g' e f Q) (Q (.bl false)) ⟨⟩ ⟨⟩)
theorem chain_sound {c : Expr} {wc : WE} {f f' : Value → Value → Sem Value} {g g' : D → D → (D → Prop) → Prop} (ho : OpD X f g) (ho' : OpD X f' g') (ha : BD X E a wa) (hb : BD X E b wb) (hc : BD X E c wc) :
    ∃ r r' ta tb tc, OpR X f r ∧ OpR X f' r' ∧ PE X a ta ∧ PE X b tb ∧ PE X c tc ∧ ∀ (x : XS) (ρ : Ev) (Q : D → Prop), wChain g g' wa wb wc x ρ Q → ∀ (F : Fr) (σ : L2.St) (H S : Hp) (Q' : VK), Rep F ρ σ H S → ExOk X.mg E x H S →
    (∀ d v H' S', Q d → Grow H S H' S' → Dat S' d v → Q' v H') → tChain r r' ta tb tc σ H Q' := by
  obtain ⟨r, o, so⟩ := ho.ex
  obtain ⟨r', o', so'⟩ := ho'.ex
  obtain ⟨ta, pa, sa⟩ := ha.ex
  obtain ⟨tb, pb, sb⟩ := hb.ex
  obtain ⟨tc, pc, sc⟩ := hc.ex
  refine ⟨r, r', ta, tb, tc, o, o', pa, pb, pc, fun x ρ Q hw F σ H S Q' rp ex k => ?_⟩
  refine sa x ρ _ hw F σ H S _ rp ex fun d u H1 S1 q1 g1 h1 => ?_
  refine sb x ρ _ q1 F σ H1 S1 _ (rp.grow g1) (ex.grow g1) fun e v H2 S2 q2 g2 h2 => ?_
  refine so d e _ q2 H2 S2 u v _ g2.sh (h1.grow g2) h2 fun z y H3 S3 q3 g3 h3 => ?_
  obtain ⟨kb, rfl, q3⟩ := onBl_sound q3 h3
  refine ⟨kb, rfl, ?_⟩
  have g13 := (g1.trans g2).trans g3
  cases kb with
  | false => exact iteF (k _ _ H3 S3 q3 g13 (by unfold Dat; rfl))
  | true =>
    refine iteT (sc x ρ _ q3 F σ H3 S3 _ (rp.grow g13) (ex.grow g13) fun z y H4 S4 q4 g4 h4 => ?_)
    exact so' e z Q q4 H4 S4 v y Q' g4.sh ((h2.grow g3).grow g4) h4 fun z y H5 S5 q5 g5 h5 => k z y H5 S5 q5 ((g13.trans g4).trans g5) h5
theorem ed_chain {c : Expr} {wc : WE} {op op' : CmpOp} {g g' : D → D → (D → Prop) → Prop} (ho : OpD X (compareOp op) g) (ho' : OpD X (compareOp op') g') (ha : BD X E a wa) (hb : BD X E b wb) (hc : BD X E c wc)
    (hm : lastMarks [op, op'] [b, c] = false := by with_unfolding_all rfl) : ED X E (.Compare a [op, op'] [b, c] pos) (wChain g g' wa wb wc) := by
  obtain ⟨r, r', ta, tb, tc, o, o', pa, pb, pc, s⟩ := chain_sound ho ho' ha hb hc
  exact ⟨_, pe_chain o o' pa pb pc hm, s⟩
theorem td_chain {c : Expr} {wc : WE} {op op' : CmpOp} {g g' : D → D → (D → Prop) → Prop} (ho : OpD X (compareOp op) g) (ho' : OpD X (compareOp op') g') (ha : BD X E a wa) (hb : BD X E b wb) (hc : BD X E c wc)
    (hm : lastMarks [op, op'] [b, c] = false := by with_unfolding_all rfl) : TD X E (.Compare a [op, op'] [b, c] pos) (wtOn (wChain g g' wa wb wc)) := by
  obtain ⟨r, r', ta, tb, tc, o, o', pa, pb, pc, s⟩ := chain_sound ho ho' ha hb hc
  refine ⟨_, pt_chain o o' pa pb pc hm, fun x ρ Q hw F σ H S Q' rp ex k => ?_⟩
  refine s x ρ _ hw F σ H S _ rp ex fun d v H' S' q g hd => ?_
  obtain ⟨b, rfl, q⟩ := onBl_sound q hd
  exact ⟨b, rfl, k b H' S' q g⟩

/-! ### truth -/
def trD : D → (Bool → Prop) → Prop
  | .non, Q => Q false
  | .bl b, Q => Q b
  | .int i, Q => Q (i != 0)
  | .str s, Q => s.length ≤ sizeLine ∧ Q ((s.length : Int) != 0)
  | .lst xs, Q => Q (!xs.isEmpty)
  | .tup xs, Q => Q (!xs.isEmpty)
  | _, _ => False
theorem Dats.emp {S : Hp} {xs : List D} {vs : List V} (h : Dats S xs vs) : vs.isEmpty = xs.isEmpty := by
  have := h.len
  cases xs <;> cases vs <;> simp_all
theorem trD_sound {K : PySem.W.Frag} {H S : Hp} {d : D} {v : V} {Q : Bool → Prop} (sh : Same S H) (hb : BDat H S d v) (h : trD d Q) : ∃ k, TruV K v H k ∧ Q k := by
  cases d with
  | non => simp only [BDat, Dat] at hb; subst hb; exact ⟨_, rfl, h⟩
  | bl b => simp only [BDat, Dat] at hb; subst hb; exact ⟨_, rfl, h⟩
  | int i => simp only [BDat, Dat] at hb; subst hb; exact ⟨_, rfl, h⟩
  | str s => simp only [BDat, Dat] at hb; subst hb; exact ⟨_, ⟨h.1, rfl⟩, h.2⟩
  | lst xs =>
    obtain ⟨a, vs, rfl, r, q⟩ := hb
    exact ⟨_, .inl ⟨vs, .of r, rfl⟩, by rw [q.emp]; exact h⟩
  | tup xs =>
    simp only [BDat, Dat] at hb
    obtain ⟨a, vs, rfl, r, q⟩ := hb
    exact ⟨_, .inr (.inl ⟨vs, .of (sh _ _ r), rfl⟩), by rw [q.emp]; exact h⟩
  | dct _ _ => exact h.elim
  | obj _ _ _ => exact h.elim
  | dkz _ _ => exact h.elim
  | ref _ => exact h.elim
  | scr _ => exact h.elim
def wtVal (wa : WE) : WT := fun x ρ Q => wa x ρ fun d => trD d Q
theorem td_val (ha : BD X E a wa) (he : ∀ whole, isTrue a X.env whole = (do let v ← whole; standAt a.pos; holding [v] (truthy v)) := by intro _; rfl) : TD X E a (wtVal wa) := by
  obtain ⟨ta, pa, sa⟩ := ha.ex
  refine ⟨_, pt_truth pa he, fun x ρ Q hw F σ H S Q' rp ex k => ?_⟩
  refine sa x ρ _ hw F σ H S _ rp ex fun d u H1 S1 q1 g1 h1 => ?_
  obtain ⟨kb, e, q⟩ := trD_sound g1.sh h1 q1
  exact ⟨kb, e, k kb H1 S1 q g1⟩
variable {wt wu : WT} {rest : List Expr}
def wtNot (wt : WT) : WT := fun x ρ Q => wt x ρ fun b => Q (!b)
theorem td_not (ha : TD X E a wt) : TD X E (.UnaryOp .Not a pos) (wtNot wt) := by
  obtain ⟨t, p, s⟩ := ha.ex
  exact ⟨_, pt_not p, fun x ρ Q hw F σ H S Q' rp ex k => s x ρ _ hw F σ H S _ rp ex fun b H' S' q g => k _ H' S' q g⟩
def wAnd (wt wu : WT) : WT := fun x ρ Q => wt x ρ fun b => Br b (wu x ρ Q) (Q false) ⟨⟩ ⟨⟩
def wOr (wt wu : WT) : WT := fun x ρ Q => wt x ρ fun b => Br b (Q true) (wu x ρ Q) ⟨⟩ ⟨⟩
theorem wd_and1 (ha : TD X E a wt) : WD X E (.BoolOp .And [a] pos) wt := by
  obtain ⟨t, p, s⟩ := ha.ex
  exact ⟨_, pw_and1 p, s⟩
theorem wd_or1 (ha : TD X E a wt) : WD X E (.BoolOp .Or [a] pos) wt := by
  obtain ⟨t, p, s⟩ := ha.ex
  exact ⟨_, pw_or1 p, s⟩
theorem wd_and (ha : TD X E a wt) (hb : WD X E (.BoolOp .And (b :: rest) pos) wu) : WD X E (.BoolOp .And (a :: b :: rest) pos) (wAnd wt wu) := by
  obtain ⟨t, p, s⟩ := ha.ex
  obtain ⟨t', p', s'⟩ := hb.ex
  refine ⟨_, pw_and p p', fun x ρ Q hw F σ H S Q' rp ex k => ?_⟩
  refine s x ρ _ hw F σ H S _ rp ex fun b H1 S1 q1 g1 => ?_
  cases b with
  | true => exact iteT (s' x ρ _ q1 F σ H1 S1 _ (rp.grow g1) (ex.grow g1) fun b H2 S2 q2 g2 => k b H2 S2 q2 (g1.trans g2))
  | false => exact iteF (k _ H1 S1 q1 g1)
theorem wd_or (ha : TD X E a wt) (hb : WD X E (.BoolOp .Or (b :: rest) pos) wu) : WD X E (.BoolOp .Or (a :: b :: rest) pos) (wOr wt wu) := by
  obtain ⟨t, p, s⟩ := ha.ex
  obtain ⟨t', p', s'⟩ := hb.ex
  refine ⟨_, pw_or p p', fun x ρ Q hw F σ H S Q' rp ex k => ?_⟩
  refine s x ρ _ hw F σ H S _ rp ex fun b H1 S1 q1 g1 => ?_
  cases b with
  | true => exact iteT (k _ H1 S1 q1 g1)
  | false => exact iteF (s' x ρ _ q1 F σ H1 S1 _ (rp.grow g1) (ex.grow g1) fun b H2 S2 q2 g2 => k b H2 S2 q2 (g1.trans g2))
theorem td_w (h : WD X E e wt) : TD X E e wt := by
  obtain ⟨t, p, s⟩ := h.ex
  exact ⟨_, p.pt, s⟩
/-! .. as values -/
theorem ed_one {op} (h : ED X E a wa) : ED X E (.BoolOp op [a] pos) wa := by
  obtain ⟨t, p, s⟩ := h.ex
  exact ⟨_, pe_one p, s⟩
def wAndV (wa wb : WE) : WE := fun x ρ Q => wa x ρ fun d => trD d fun k => Br k (wb x ρ Q) (Q d) ⟨⟩ ⟨⟩
def wOrV (wa wb : WE) : WE := fun x ρ Q => wa x ρ fun d => trD d fun k => Br k (Q d) (wb x ρ Q) ⟨⟩ ⟨⟩
theorem ed_and (ha : ED X E a wa) (hb : ED X E (.BoolOp .And (b :: rest) pos) wb) : ED X E (.BoolOp .And (a :: b :: rest) pos) (wAndV wa wb) := by
  obtain ⟨t, p, s⟩ := ha.ex
  obtain ⟨t', p', s'⟩ := hb.ex
  refine ⟨_, pe_andT p p', fun x ρ Q hw F σ H S Q' rp ex k => ?_⟩
  refine s x ρ _ hw F σ H S _ rp ex fun d u H1 S1 q1 g1 h1 => ?_
  obtain ⟨kb, e, q⟩ := trD_sound (K := X.K) g1.sh (BDat.of g1.sh h1) q1
  refine ⟨kb, e, ?_⟩
  cases kb with
  | true => exact iteT (s' x ρ _ q F σ H1 S1 _ (rp.grow g1) (ex.grow g1) fun d v H2 S2 q2 g2 h2 => k d v H2 S2 q2 (g1.trans g2) h2)
  | false => exact iteF (k _ _ H1 S1 q g1 h1)
theorem ed_or (ha : ED X E a wa) (hb : ED X E (.BoolOp .Or (b :: rest) pos) wb) : ED X E (.BoolOp .Or (a :: b :: rest) pos) (wOrV wa wb) := by
  obtain ⟨t, p, s⟩ := ha.ex
  obtain ⟨t', p', s'⟩ := hb.ex
  refine ⟨_, pe_orT p p', fun x ρ Q hw F σ H S Q' rp ex k => ?_⟩
  refine s x ρ _ hw F σ H S _ rp ex fun d u H1 S1 q1 g1 h1 => ?_
  obtain ⟨kb, e, q⟩ := trD_sound (K := X.K) g1.sh (BDat.of g1.sh h1) q1
  refine ⟨kb, e, ?_⟩
  cases kb with
  | true => exact iteT (k _ _ H1 S1 q g1 h1)
  | false => exact iteF (s' x ρ _ q F σ H1 S1 _ (rp.grow g1) (ex.grow g1) fun d v H2 S2 q2 g2 h2 => k d v H2 S2 q2 (g1.trans g2) h2)
def wNotV (wa : WE) : WE := fun x ρ Q => wa x ρ fun d => trD d fun k => Q (.bl (!k))
theorem ed_not (ha : BD X E a wa) : ED X E (.UnaryOp .Not a pos) (wNotV wa) := by
  obtain ⟨t, p, s⟩ := ha.ex
  refine ⟨_, pe_notT p, fun x ρ Q hw F σ H S Q' rp ex k => ?_⟩
  refine s x ρ _ hw F σ H S _ rp ex fun d u H1 S1 q1 g1 h1 => ?_
  obtain ⟨kb, e, q⟩ := trD_sound (K := X.K) g1.sh h1 q1
  exact ⟨kb, e, k _ _ H1 S1 q g1 (by unfold Dat; rfl)⟩
def wIf (wt : WT) (wa wb : WE) : WE := fun x ρ Q => wt x ρ fun b => Br b (wa x ρ Q) (wb x ρ Q) ⟨⟩ ⟨⟩
theorem ed_ifexp {c : Expr} (hc : TD X E c wt) (ha : ED X E a wa) (hb : ED X E b wb) : ED X E (.IfExp c a b pos) (wIf wt wa wb) := by
  obtain ⟨t, p, s⟩ := hc.ex
  obtain ⟨ta, pa, sa⟩ := ha.ex
  obtain ⟨tb, pb, sb⟩ := hb.ex
  refine ⟨_, pe_ifExp p pa pb, fun x ρ Q hw F σ H S Q' rp ex k => ?_⟩
  refine s x ρ _ hw F σ H S _ rp ex fun b H1 S1 q1 g1 => ?_
  cases b with
  | true => exact iteT (sa x ρ _ q1 F σ H1 S1 _ (rp.grow g1) (ex.grow g1) fun d v H2 S2 q2 g2 h2 => k d v H2 S2 q2 (g1.trans g2) h2)
  | false => exact iteF (sb x ρ _ q1 F σ H1 S1 _ (rp.grow g1) (ex.grow g1) fun d v H2 S2 q2 g2 h2 => k d v H2 S2 q2 (g1.trans g2) h2)

/-! ### arguments, displays -/
def wNil : WL := fun _ _ Q => Q []
theorem ad_nil : AD X E [] wNil := ⟨_, pa_nil, fun x ρ Q hw F σ H S Q' rp ex k => k [] [] H S hw (.refl rp.sh) .nil⟩
def wCons (wa : WE) (wl : WL) : WL := fun x ρ Q => wa x ρ fun d => wl x ρ fun ds => Q (d :: ds)
theorem ad_cons (ha : ED X E a wa) (hr : AD X E es wl) (hs : starEach (a :: es) X.env = (false, eval a X.env) :: starEach es X.env := by rfl) : AD X E (a :: es) (wCons wa wl) := by
  obtain ⟨t, p, s⟩ := ha.ex
  obtain ⟨t', p', s'⟩ := hr.ex
  refine ⟨_, pa_cons p p' hs, fun x ρ Q hw F σ H S Q' rp ex k => ?_⟩
  refine s x ρ _ hw F σ H S _ rp ex fun d u H1 S1 q1 g1 h1 => ?_
  refine s' x ρ _ q1 F σ H1 S1 _ (rp.grow g1) (ex.grow g1) fun ds vs H2 S2 q2 g2 h2 => ?_
  exact k _ _ H2 S2 q2 (g1.trans g2) (.cons (Dat.mono g2.ss _ _ h1) h2)
theorem ab_nil : AB X E [] wNil := ⟨_, pa_nil, fun x ρ Q hw F σ H S Q' rp ex k => k [] [] H S hw (.refl rp.sh) rfl⟩
theorem ab_cons (ha : BD X E a wa) (hr : AB X E es wl) (hs : starEach (a :: es) X.env = (false, eval a X.env) :: starEach es X.env := by rfl) : AB X E (a :: es) (wCons wa wl) := by
  obtain ⟨t, p, s⟩ := ha.ex
  obtain ⟨t', p', s'⟩ := hr.ex
  refine ⟨_, pa_cons p p' hs, fun x ρ Q hw F σ H S Q' rp ex k => ?_⟩
  refine s x ρ _ hw F σ H S _ rp ex fun d u H1 S1 q1 g1 h1 => ?_
  refine s' x ρ _ q1 F σ H1 S1 _ (rp.grow g1) (ex.grow g1) fun ds vs H2 S2 q2 g2 h2 => ?_
  exact k _ _ H2 S2 q2 (g1.trans g2) ⟨_, _, rfl, h1.grow g2, h2⟩
def wTup (wl : WL) : WE := fun x ρ Q => wl x ρ fun ds => ds.length ≤ sizeLine ∧ Q (.tup ds)
def wLst (wl : WL) : WL := fun x ρ Q => wl x ρ fun ds => ds.length ≤ sizeLine ∧ Q ds
theorem ed_tup {k1} (h : AD X E es wl) : ED X E (.Tuple es k1 pos) (wTup wl) := by
  obtain ⟨t, p, s⟩ := h.ex
  refine ⟨_, pe_tup p, fun x ρ Q hw F σ H S Q' rp ex k => ?_⟩
  refine s x ρ _ hw F σ H S _ rp ex fun ds vs H1 S1 q1 g1 h1 => ⟨by rw [h1.len]; exact q1.1, fun p hp => ?_⟩
  have h0 := g1.freeS hp
  refine k _ _ _ (upd S1 p (.tup vs)) q1.2 ((g1.lay hp).share (g1.freeH hp) h0 upd_same) ?_
  unfold Dat
  exact ⟨p, vs, rfl, upd_same, Dats.mono (same_upd h0) _ _ h1⟩
theorem df_lst (h : AD X E es wl) : DF X E (.List es pos) (wLst wl) := by
  obtain ⟨t, p, s⟩ := h.ex
  refine ⟨_, pe_lst p, fun x ρ Q hw F σ H S Q' rp ex k => ?_⟩
  refine s x ρ _ hw F σ H S _ rp ex fun ds vs H1 S1 q1 g1 h1 => ⟨by rw [h1.len]; exact q1.1, fun p hp => ?_⟩
  exact k _ _ _ _ S1 q1.2 (g1.lay hp) (g1.freeH hp) (g1.freeS hp) upd_same h1
def wUn (f : Int → Int) (wa : WE) : WE := fun x ρ Q => wa x ρ fun d => match d with
  | .int i => Q (.int (f i))
  | _ => False
theorem ed_un {op : UnaryOp} {f : Int → Int} (ho : UnR X (unaryOp op) (rU fun i => .int (f i))) (ha : ED X E a wa) : ED X E (.UnaryOp op a pos) (wUn f wa) := by
  obtain ⟨t, p, s⟩ := ha.ex
  refine ⟨_, pe_un ho p, fun x ρ Q hw F σ H S Q' rp ex k => ?_⟩
  refine s x ρ _ hw F σ H S _ rp ex fun d u H1 S1 q1 g1 h1 => ?_
  cases d with
  | int i =>
    unfold Dat at h1
    exact ⟨i, h1, k _ _ H1 S1 q1 g1 (by unfold Dat; rfl)⟩
  | _ => exact q1.elim
end
end NL

namespace NL
open PySem PySem.Spec L2
open PyProof.Rows hiding St
variable [KC]

/-! ### the operators by data -/
theorem Dat.i {S : Hp} {i : Int} : Dat S (.int i) (.int i) := by unfold Dat; rfl
theorem Dat.s {S : Hp} {i : Str} : Dat S (.str i) (.str i) := by unfold Dat; rfl
theorem Dat.b {S : Hp} {i : Bool} : Dat S (.bl i) (.bl i) := by unfold Dat; rfl
theorem Dat.n {S : Hp} : Dat S .non .non := by unfold Dat; rfl
theorem BDat.i {H S : Hp} {i : Int} {v : V} (h : BDat H S (.int i) v) : v = .int i := by unfold BDat Dat at h; exact h
theorem BDat.s {H S : Hp} {i : Str} {v : V} (h : BDat H S (.str i) v) : v = .str i := by unfold BDat Dat at h; exact h
theorem BDat.b {H S : Hp} {i : Bool} {v : V} (h : BDat H S (.bl i) v) : v = .bl i := by unfold BDat Dat at h; exact h
theorem BDat.n {H S : Hp} {v : V} (h : BDat H S .non v) : v = .non := by unfold BDat Dat at h; exact h
theorem Dat.lstOf {S : Hp} {xs : List D} {vs : List V} {p : Addr} (h : S p = some (.lst vs)) (q : Dats S xs vs) : Dat S (.lst xs) (.ref p) := by
  unfold Dat
  exact ⟨p, vs, rfl, h, q⟩
/-- a list just laid, shared -/
theorem lay_lst {H S : Hp} {xs : List D} {vs : List V} {p : Addr} (sh : Same S H) (hp : H p = none) (q : Dats S xs vs) :
    Grow H S (upd H p (.lst vs)) (upd S p (.lst vs)) ∧ Dat (upd S p (.lst vs)) (.lst xs) (.ref p) := by
  have h0 := sh.free hp
  exact ⟨((Grow.refl sh).lay hp).share hp h0 upd_same, .lstOf upd_same (Dats.mono (same_upd h0) _ _ q)⟩

section
variable {X : Cx}
def gAdd : D → D → (D → Prop) → Prop
  | .int i, .int j, Q => Q (.int (i + j))
  | .str s, .str t, Q => s.length + t.length ≤ sizeLine ∧ Q (.str (s ++ t))
  | .lst xs, .lst ys, Q => xs.length + ys.length ≤ sizeLine ∧ Q (.lst (xs ++ ys))
  | _, _, _ => False
theorem dAdd : OpD X (binaryOp .Add) gAdd := by
  refine ⟨_, op_add.or (op_add_str.or op_cat), fun d e Q h H S u v Q' sh hd he k => ?_⟩
  unfold gAdd at h
  split at h
  · exact .inl ⟨_, _, hd.i, he.i, k _ _ H S h (.refl sh) .i⟩
  · exact .inr (.inl ⟨_, _, hd.s, he.s, h.1, k _ _ H S h.2 (.refl sh) .s⟩)
  · obtain ⟨a, vs, rfl, ra, qa⟩ := hd
    obtain ⟨b, ws, rfl, rb, qb⟩ := he
    refine .inr (.inr ⟨a, b, vs, ws, rfl, rfl, ra, rb, by rw [qa.len, qb.len]; exact h.1, fun p hp => ?_⟩)
    obtain ⟨g, z⟩ := lay_lst sh hp (qa.app qb)
    exact k _ _ _ _ h.2 g z
  · exact h.elim
def gInt (C : Int → Int → Prop) (f : Int → Int → Int) : D → D → (D → Prop) → Prop
  | .int i, .int j, Q => C i j ∧ Q (.int (f i j))
  | _, _, _ => False
def gInt0 (f : Int → Int → Int) : D → D → (D → Prop) → Prop
  | .int i, .int j, Q => Q (.int (f i j))
  | _, _, _ => False
theorem dInt {f : Value → Value → Sem Value} {C : Int → Int → Prop} {g : Int → Int → Int} (ho : OpR X f (rI C fun i j => .int (g i j))) : OpD X f (gInt C g) := by
  refine ⟨_, ho, fun d e Q h H S u v Q' sh hd he k => ?_⟩
  unfold gInt at h
  split at h
  · exact ⟨_, _, hd.i, he.i, h.1, k _ _ H S h.2 (.refl sh) .i⟩
  · exact h.elim
theorem dInt0 {f : Value → Value → Sem Value} {g : Int → Int → Int} (ho : OpR X f (rI0 fun i j => .int (g i j))) : OpD X f (gInt0 g) := by
  refine ⟨_, ho, fun d e Q h H S u v Q' sh hd he k => ?_⟩
  unfold gInt0 at h
  split at h
  · exact ⟨_, _, hd.i, he.i, k _ _ H S h (.refl sh) .i⟩
  · exact h.elim
theorem dSub : OpD X (binaryOp .Sub) (gInt0 fun i j => i - j) := dInt0 op_sub
theorem dDiv : OpD X (binaryOp .FloorDiv) (gInt CDivW fun i j => i / j) := dInt op_fdivW
theorem dMod : OpD X (binaryOp .Mod) (gInt (fun _ j => 0 < j) fun i j => i % j) := dInt op_mod
theorem dPow : OpD X (binaryOp .Pow) (gInt CPow fun i j => i ^ j.toNat) := dInt op_pow
theorem dShl : OpD X (binaryOp .LShift) (gInt CPow fun i j => i * 2 ^ j.toNat) := dInt op_shl
theorem dShr : OpD X (binaryOp .RShift) (gInt (fun _ j => 0 ≤ j) fun i j => i / 2 ^ j.toNat) := dInt op_shr
theorem dAnd : OpD X (binaryOp .BitAnd) (gInt0 fun i j => Builtin.bitAnd i j) := dInt0 op_and
def srep (n : Nat) (s : Str) : Str := ⟨((List.replicate n s.cps.toList).flatten).toArray⟩
theorem fold_app (n : Nat) (a b : Array Nat) : ((List.replicate n a).foldl (· ++ ·) b).toList = b.toList ++ (List.replicate n a.toList).flatten := by
  induction n generalizing b with
  | zero => simp
  | succ n ih =>
    simp only [List.replicate_succ, List.foldl_cons, List.flatten_cons]
    rw [ih, Array.toList_append, List.append_assoc]
theorem op_repS : OpR X (binaryOp .Mult) (fun x y H Q => ∃ i k, x = .str i ∧ y = .int k ∧ (-(2 ^ 63) ≤ k ∧ k < 2 ^ 63 ∧ i.length * k.toNat ≤ sizeLine) ∧ Q (.str (srep k.toNat i)) H) := by
  intro pins s σ H x y v u Q I rx ry h
  obtain ⟨i, k, rfl, rfl, ⟨k1, k2, k3⟩, q⟩ := h
  obtain ⟨t, rfl⟩ := rx
  obtain ⟨t', rfl⟩ := ry
  have fin : ∀ tk : Tok, ∀ z, z = srep k.toNat i → EP X pins σ Q (.str z tk) { s with toks := s.toks + 1 } := fun tk z hz => by
    subst hz
    exact ⟨.str _, H, I.tok _, ⟨_, rfl⟩, q⟩
  refine P.mul_str (by rw [decide_eq_false (by omega), decide_eq_false (by omega)]; rfl) (fun h1 h2 => ?_) (fun h1 h2 => ?_) ?_
  · have hk : k = (k.toNat : Int) := by omega
    have hs : (sizeLine : Int) = 16777216 := by rfl
    have h3 : (i.length : Int) * k ≤ 16777216 := by
      rw [hk]
      rw [← hs]
      exact_mod_cast k3
    have h4 : (i.length : Int) ≤ (2 ^ 63 - 1) / k := by
      rw [Int.le_ediv_iff_mul_le (by omega)]
      omega
    omega
  · unfold Builtin.Str.tooLong
    exact decide_eq_false (by omega)
  · have lz : (srep k.toNat i).length ≤ sizeLine := by
      have : (srep k.toNat i).length = i.length * k.toNat := by
        show (List.flatten _).toArray.size = _
        rw [List.size_toArray, List.length_flatten, List.map_replicate, List.sum_replicate_nat, Nat.mul_comm]
        rfl
      rw [this]
      exact k3
    split
    · rename_i h1
      refine ⟨by show (#[] : Array Nat).size ≤ _; simp, fin _ _ ?_⟩
      have : k.toNat = 0 := by omega
      rw [this]
      rfl
    · rename_i h1
      split
      · rename_i h2
        have e : i = srep k.toNat i := by
          rcases Bool.or_eq_true _ _ ▸ h2 with h2 | h2
          · have : k.toNat = 1 := by
              have : k = 1 := by simpa using h2
              omega
            rw [this]
            show i = ⟨(List.flatten [i.cps.toList]).toArray⟩
            simp
          · have : i.cps = #[] := by
              have : i.cps.size = 0 := (beq_iff_eq.mp h2 : i.length = 0)
              exact Array.eq_empty_of_size_eq_zero this
            have e2 : i = ⟨#[]⟩ := by
              cases i
              simp at this
              rw [this]
            rw [e2]
            unfold srep
            simp
        exact ⟨.str i, H, I, ⟨_, rfl⟩, by rw [e]; exact q⟩
      · have e : (⟨List.foldl (fun x1 x2 => x1 ++ x2) #[] (List.replicate k.toNat i.cps)⟩ : Str) = srep k.toNat i := by
          unfold srep
          congr 1
          apply Array.toList_inj.mp
          have := fold_app k.toNat i.cps #[]
          simpa using this
        exact ⟨by rw [e]; exact lz, fin _ _ e⟩
def gMul : D → D → (D → Prop) → Prop
  | .int i, .int j, Q => CMulW i j ∧ Q (.int (i * j))
  | .str s, .int k, Q => (-(2 ^ 63) ≤ k ∧ k < 2 ^ 63 ∧ s.length * k.toNat ≤ sizeLine) ∧ Q (.str (srep k.toNat s))
  | .lst xs, .int k, Q => (-(2 ^ 63) ≤ k ∧ k < 2 ^ 63 ∧ xs.length * k.toNat ≤ sizeLine) ∧ Q (.lst (List.replicate k.toNat xs).flatten)
  | _, _, _ => False
theorem dMul : OpD X (binaryOp .Mult) gMul := by
  refine ⟨_, op_mulW.or (op_repS.or op_rep), fun d e Q h H S u v Q' sh hd he k => ?_⟩
  unfold gMul at h
  split at h
  · exact .inl ⟨_, _, hd.i, he.i, h.1, k _ _ H S h.2 (.refl sh) .i⟩
  · exact .inr (.inl ⟨_, _, hd.s, he.i, h.1, k _ _ H S h.2 (.refl sh) .s⟩)
  · obtain ⟨a, vs, rfl, ra, qa⟩ := hd
    refine .inr (.inr ⟨a, _, vs, rfl, he.i, ra, h.1.1, h.1.2.1, by rw [qa.len]; exact h.1.2.2, fun p hp => ?_⟩)
    obtain ⟨g, z⟩ := lay_lst sh hp (qa.rep _)
    exact k _ _ _ _ h.2 g z
  · exact h.elim

/-! ### new lists by operators -/
structure FopD (X : Cx) (f : Value → Value → Sem Value) (g : D → D → (List D → Prop) → Prop) : Prop where
  ex : ∃ r : R2, OpR X f r ∧ ∀ (d e : D) (Q : List D → Prop), g d e Q → ∀ (H S : Hp) (u v : V) (Q' : VK), Same S H → BDat H S d u → BDat H S e v →
    (∀ z vs p, Q z → H p = none → Dats S z vs → Q' (.ref p) (upd H p (.lst vs))) → r u v H Q'
def gCatF : D → D → (List D → Prop) → Prop
  | .lst xs, .lst ys, Q => xs.length + ys.length ≤ sizeLine ∧ Q (xs ++ ys)
  | _, _, _ => False
theorem fCat : FopD X (binaryOp .Add) gCatF := by
  refine ⟨_, op_cat, fun d e Q h H S u v Q' sh hd he k => ?_⟩
  unfold gCatF at h
  split at h
  · obtain ⟨a, vs, rfl, ra, qa⟩ := hd
    obtain ⟨b, ws, rfl, rb, qb⟩ := he
    exact ⟨a, b, vs, ws, rfl, rfl, ra, rb, by rw [qa.len, qb.len]; exact h.1, fun p hp => k _ _ _ h.2 hp (qa.app qb)⟩
  · exact h.elim
def gRepF : D → D → (List D → Prop) → Prop
  | .lst xs, .int k, Q => (-(2 ^ 63) ≤ k ∧ k < 2 ^ 63 ∧ xs.length * k.toNat ≤ sizeLine) ∧ Q (List.replicate k.toNat xs).flatten
  | _, _, _ => False
theorem fRep : FopD X (binaryOp .Mult) gRepF := by
  refine ⟨_, op_rep, fun d e Q h H S u v Q' sh hd he k => ?_⟩
  unfold gRepF at h
  split at h
  · obtain ⟨a, vs, rfl, ra, qa⟩ := hd
    exact ⟨a, _, vs, rfl, he.i, ra, h.1.1, h.1.2.1, by rw [qa.len]; exact h.1.2.2, fun p hp => k _ _ _ h.2 hp (qa.rep _)⟩
  · exact h.elim
variable {E : XK} {e a b : Expr} {es : List Expr} {pos : Pos} {w wa wb : WE} {wl : WL}
def wOpF (g : D → D → (List D → Prop) → Prop) (wa wb : WE) : WL := fun x ρ Q => wa x ρ fun d => wb x ρ fun e => g d e Q
theorem df_op {op : Operator} {g : D → D → (List D → Prop) → Prop} (ho : FopD X (binaryOp op) g) (ha : BD X E a wa) (hb : BD X E b wb) : DF X E (.BinOp a op b pos) (wOpF g wa wb) := by
  obtain ⟨r, o, so⟩ := ho.ex
  obtain ⟨ta, pa, sa⟩ := ha.ex
  obtain ⟨tb, pb, sb⟩ := hb.ex
  refine ⟨_, pe_op o pa pb, fun x ρ Q hw F σ H S Q' rp ex k => ?_⟩
  refine sa x ρ _ hw F σ H S _ rp ex fun d u H1 S1 q1 g1 h1 => ?_
  refine sb x ρ _ q1 F σ H1 S1 _ (rp.grow g1) (ex.grow g1) fun e v H2 S2 q2 g2 h2 => ?_
  have g12 := g1.trans g2
  refine so d e Q q2 H2 S2 u v Q' g2.sh (h1.grow g2) h2 fun z vs p q3 hp h3 => ?_
  exact k z p vs _ S2 q3 (g12.lay hp) (g12.freeH hp) (g12.freeS hp) upd_same h3

/-! ### comparisons by data -/
/-- data that == tells apart as equality does, at most so deep -/
def nb : Nat → D → Bool
  | 0, _ => false
  | _ + 1, .non => true
  | _ + 1, .int _ => true
  | _ + 1, .str s => PyData.strOk s
  | n + 1, .lst xs => xs.all (nb n)
  | n + 1, .tup xs => xs.all (nb n)
  | _ + 1, _ => false
def toPy : Nat → D → PyData
  | 0, _ => .none
  | _ + 1, .non => .none
  | _ + 1, .int i => .int i
  | _ + 1, .str s => .str s
  | n + 1, .lst xs => .list (xs.map (toPy n))
  | n + 1, .tup xs => .tuple (xs.map (toPy n))
  | _ + 1, _ => .none
theorem nb_dp {H : Hp} {K : PySem.W.Frag} : ∀ (n : Nat) (d : D) (v : V), nb n d = true → Dat H d v → Dp K H v (toPy n d)
  | 0, _, _, h, _ => by simp [nb] at h
  | n + 1, .non, v, _, q => by unfold Dat at q; subst q; exact .non
  | n + 1, .int i, v, _, q => by unfold Dat at q; subst q; exact .int i
  | n + 1, .str i, v, _, q => by unfold Dat at q; subst q; exact .str i
  | n + 1, .bl _, v, h, _ => by simp [nb] at h
  | n + 1, .dct _ _, v, h, _ => by simp [nb] at h
  | n + 1, .obj _ _ _, v, h, _ => by simp [nb] at h
  | n + 1, .dkz _ _, v, h, _ => by simp [nb] at h
  | n + 1, .ref _, v, h, _ => by simp [nb] at h
  | n + 1, .scr _, v, h, _ => by simp [nb] at h
  | n + 1, .lst xs, v, h, q => by
    unfold Dat at q
    obtain ⟨a, vs, rfl, r, q⟩ := q
    have h' : ∀ x ∈ xs, nb n x = true := by simpa [nb] using h
    refine .lst (.of r) ?_
    clear r h
    induction xs generalizing vs with
    | nil => unfold Dats at q; subst q; exact .nil
    | cons x xs ih =>
      unfold Dats at q
      obtain ⟨v, r, rfl, q1, q2⟩ := q
      exact .cons (nb_dp n x v (h' x (by simp)) q1) (ih r q2 fun y hy => h' y (by simp [hy]))
  | n + 1, .tup xs, v, h, q => by
    unfold Dat at q
    obtain ⟨a, vs, rfl, r, q⟩ := q
    have h' : ∀ x ∈ xs, nb n x = true := by simpa [nb] using h
    refine .tup (.of r) ?_
    clear r h
    induction xs generalizing vs with
    | nil => unfold Dats at q; subst q; exact .nil
    | cons x xs ih =>
      unfold Dats at q
      obtain ⟨v, r, rfl, q1, q2⟩ := q
      exact .cons (nb_dp n x v (h' x (by simp)) q1) (ih r q2 fun y hy => h' y (by simp [hy]))
omit [KC] in
theorem nb_shape : ∀ (n : Nat) (d : D), nb n d = true → (toPy n d).canLay0 = true ∧ (toPy n d).depth ≤ n
  | 0, _, h => by simp [nb] at h
  | n + 1, .non, _ => by simp [toPy, PyData.canLay0, PyData.depth]
  | n + 1, .int i, _ => by simp [toPy, PyData.canLay0, PyData.depth]
  | n + 1, .str i, h => by simpa [toPy, PyData.canLay0, PyData.depth, nb] using h
  | n + 1, .bl _, h => by simp [nb] at h
  | n + 1, .dct _ _, h => by simp [nb] at h
  | n + 1, .obj _ _ _, h => by simp [nb] at h
  | n + 1, .dkz _ _, h => by simp [nb] at h
  | n + 1, .ref _, h => by simp [nb] at h
  | n + 1, .scr _, h => by simp [nb] at h
  | n + 1, .lst xs, h => by
    have h' : ∀ x ∈ xs, nb n x = true := by simpa [nb] using h
    have key : PyData.canLayAll0 (xs.map (toPy n)) = true ∧ PyData.depthAll (xs.map (toPy n)) ≤ n := by
      clear h
      induction xs with
      | nil => simp [PyData.canLayAll0, PyData.depthAll]
      | cons x xs ih =>
        obtain ⟨i1, i2⟩ := ih fun y hy => h' y (by simp [hy])
        obtain ⟨j1, j2⟩ := nb_shape n x (h' x (by simp))
        simp only [List.map_cons, PyData.canLayAll0, PyData.depthAll, i1, j1, Bool.and_self, true_and]
        omega
    simp only [toPy, PyData.canLay0, PyData.depth, key.1, true_and]
    omega
  | n + 1, .tup xs, h => by
    have h' : ∀ x ∈ xs, nb n x = true := by simpa [nb] using h
    have key : PyData.canLayAll0 (xs.map (toPy n)) = true ∧ PyData.depthAll (xs.map (toPy n)) ≤ n := by
      clear h
      induction xs with
      | nil => simp [PyData.canLayAll0, PyData.depthAll]
      | cons x xs ih =>
        obtain ⟨i1, i2⟩ := ih fun y hy => h' y (by simp [hy])
        obtain ⟨j1, j2⟩ := nb_shape n x (h' x (by simp))
        simp only [List.map_cons, PyData.canLayAll0, PyData.depthAll, i1, j1, Bool.and_self, true_and]
        omega
    simp only [toPy, PyData.canLay0, PyData.depth, key.1, true_and]
    omega
omit [KC] in
theorem eqvAll_iff {n : Nat} (ih : ∀ d e : D, nb n d = true → nb n e = true → (PyData.eqv (toPy n d) (toPy n e) = true ↔ d = e)) : ∀ (xs ys : List D), (∀ x ∈ xs, nb n x = true) → (∀ y ∈ ys, nb n y = true) →
    (PyData.eqvAll (xs.map (toPy n)) (ys.map (toPy n)) = true ↔ xs = ys)
  | [], [], _, _ => by simp [PyData.eqvAll]
  | [], _ :: _, _, _ => by simp [PyData.eqvAll]
  | _ :: _, [], _, _ => by simp [PyData.eqvAll]
  | x :: xs, y :: ys, hx, hy => by
    simp only [List.map_cons, PyData.eqvAll, Bool.and_eq_true, List.cons.injEq]
    rw [ih x y (hx x (by simp)) (hy y (by simp)), eqvAll_iff ih xs ys (fun z hz => hx z (by simp [hz])) fun z hz => hy z (by simp [hz])]
omit [KC] in
theorem eqv_iff : ∀ (n : Nat) (d e : D), nb n d = true → nb n e = true → (PyData.eqv (toPy n d) (toPy n e) = true ↔ d = e)
  | 0, _, _, h, _ => by simp [nb] at h
  | n + 1, d, e, h, g => by
    have ih := eqv_iff n
    cases d <;> cases e <;> simp_all [nb, toPy, PyData.eqv]
    · rename_i xs ys
      exact eqvAll_iff ih xs ys h g
    · rename_i xs ys
      exact eqvAll_iff ih xs ys h g
omit [KC] in
theorem nb_shaped {d : D} (h : nb 20 d = true) : SeqAt.shaped (toPy 20 d) = true := by
  obtain ⟨h1, h2⟩ := nb_shape 20 d h
  unfold SeqAt.shaped
  rw [h1, decide_eq_true (by omega)]
  rfl
open Classical in
noncomputable def deq (d e : D) : Bool := decide (d = e)
def gEq (neg : Bool) : D → D → (D → Prop) → Prop
  | .bl i, .bl j, Q => Q (.bl (neg ^^ (i == j)))
  | .int i, .int j, Q => Q (.bl (neg ^^ decide (i = j)))
  | .str i, .str j, Q => Q (.bl (neg ^^ decide (i = j)))
  | d, e, Q => (nb 20 d = true ∧ nb 20 e = true) ∧ Q (.bl (neg ^^ deq d e))
omit [KC] in
theorem eqv_deq {d e : D} (h : nb 20 d = true) (g : nb 20 e = true) : PyData.eqv (toPy 20 d) (toPy 20 e) = deq d e := by
  rw [Bool.eq_iff_iff, eqv_iff 20 d e h g]
  simp [deq]
omit [KC] in
theorem dec_bl' {i j : Bool} : decide (V.bl i = V.bl j) = (i == j) := by
  rw [Bool.eq_iff_iff]
  simp
theorem dEq {k : Nat} (hr : Room k X.A) : OpD X (compareOp .Eq) (gEq false) := by
  refine ⟨_, op_eq.or (op_eqD hr.units), fun d e Q h H S u v Q' sh hd he k => ?_⟩
  unfold gEq at h
  split at h
  · cases hd.b
    cases he.b
    exact .inl ⟨rfl, by rw [dec_bl']; simpa using k _ _ H S h (.refl sh) .b⟩
  · cases hd.i
    cases he.i
    exact .inl ⟨rfl, by simpa using k _ _ H S h (.refl sh) .b⟩
  · cases hd.s
    cases he.s
    exact .inl ⟨rfl, by simpa using k _ _ H S h (.refl sh) .b⟩
  · obtain ⟨⟨n1, n2⟩, h⟩ := h
    refine .inr ⟨_, _, nb_dp 20 _ u n1 (hd.full sh), nb_dp 20 _ v n2 (he.full sh), nb_shaped n1, nb_shaped n2, ?_⟩
    rw [eqv_deq n1 n2]
    simpa using k _ _ H S h (.refl sh) .b
theorem dNe {k : Nat} (hr : Room k X.A) : OpD X (compareOp .NotEq) (gEq true) := by
  refine ⟨_, op_ne.or (op_neD hr.units), fun d e Q h H S u v Q' sh hd he k => ?_⟩
  unfold gEq at h
  split at h
  · cases hd.b
    cases he.b
    exact .inl ⟨rfl, by rw [dec_bl']; simpa using k _ _ H S h (.refl sh) .b⟩
  · cases hd.i
    cases he.i
    exact .inl ⟨rfl, by simpa using k _ _ H S h (.refl sh) .b⟩
  · cases hd.s
    cases he.s
    exact .inl ⟨rfl, by simpa using k _ _ H S h (.refl sh) .b⟩
  · obtain ⟨⟨n1, n2⟩, h⟩ := h
    refine .inr ⟨_, _, nb_dp 20 _ u n1 (hd.full sh), nb_dp 20 _ v n2 (he.full sh), nb_shaped n1, nb_shaped n2, ?_⟩
    rw [eqv_deq n1 n2]
    simpa using k _ _ H S h (.refl sh) .b
def gCmp (p : Int → Int → Bool) : D → D → (D → Prop) → Prop
  | .int i, .int j, Q => Q (.bl (p i j))
  | _, _, _ => False
theorem dCmp {f : Value → Value → Sem Value} {g : Int → Int → Bool} (ho : OpR X f (rI0 fun i j => .bl (g i j))) : OpD X f (gCmp g) := by
  refine ⟨_, ho, fun d e Q h H S u v Q' sh hd he k => ?_⟩
  unfold gCmp at h
  split at h
  · exact ⟨_, _, hd.i, he.i, k _ _ H S h (.refl sh) .b⟩
  · exact h.elim
theorem dLt : OpD X (compareOp .Lt) (gCmp fun i j => decide (i < j)) := dCmp op_lt
theorem dLe : OpD X (compareOp .LtE) (gCmp fun i j => decide (i ≤ j)) := dCmp op_le
theorem dGt : OpD X (compareOp .Gt) (gCmp fun i j => decide (j < i)) := dCmp op_gt
theorem dGe : OpD X (compareOp .GtE) (gCmp fun i j => decide (j ≤ i)) := dCmp op_ge
/-- one sign in a text -/
def gInS (neg : Bool) : D → D → (D → Prop) → Prop
  | .str s, .str t, Q => match s.cps.toList with
    | [c] => Q (.bl (neg ^^ decide (c ∈ t.cps.toList)))
    | _ => False
  | _, _, _ => False
omit [KC] in
theorem str_one {s : Str} {c : Nat} (h : s.cps.toList = [c]) : s = ⟨#[c]⟩ := by
  cases s with
  | mk cps =>
    congr 1
    exact Array.ext' (by simpa using h)
theorem dInS : OpD X (compareOp .In) (gInS false) := by
  refine ⟨_, op_in_sign, fun d e Q h H S u v Q' sh hd he k => ?_⟩
  unfold gInS at h
  split at h
  · split at h
    · rename_i c hc
      cases hd.s
      cases he.s
      exact ⟨c, _, by rw [str_one hc], rfl, by simpa using k _ _ H S h (.refl sh) .b⟩
    · exact h.elim
  · exact h.elim
theorem dNotInS : OpD X (compareOp .NotIn) (gInS true) := by
  refine ⟨_, op_notIn_sign, fun d e Q h H S u v Q' sh hd he k => ?_⟩
  unfold gInS at h
  split at h
  · split at h
    · rename_i c hc
      cases hd.s
      cases he.s
      exact ⟨c, _, by rw [str_one hc], rfl, by simpa using k _ _ H S h (.refl sh) .b⟩
    · exact h.elim
  · exact h.elim
/-- is None -/
def isN : D → Bool
  | .non => true
  | _ => false
theorem isN_sound {H S : Hp} {d : D} {v : V} (h : BDat H S d v) : decide (v = V.non) = isN d := by
  cases d <;> simp only [BDat, Dat] at h
  · subst h; simp [isN]
  · subst h; simp [isN]
  · subst h; simp [isN]
  · subst h; simp [isN]
  · obtain ⟨a, _, rfl, _⟩ := h; simp [isN]
  · obtain ⟨a, _, rfl, _⟩ := h; simp [isN]
  · obtain ⟨a, _, rfl, _⟩ := h; simp [isN]
  · subst h; simp [isN]
  · obtain ⟨a, rfl, _⟩ := h; simp [isN]
  · obtain ⟨a, _, _, rfl, _⟩ := h; simp [isN]
  · obtain ⟨a, _, _, rfl, _⟩ := h; simp [isN]
def gIsN (neg : Bool) : D → D → (D → Prop) → Prop := fun d e Q => isN e = true ∧ Q (.bl (neg ^^ isN d))
theorem isN_v {H S : Hp} {d : D} {v : V} (h : BDat H S d v) (n : isN d = true) : v = .non := by
  have := isN_sound h
  rw [n] at this
  simpa using this
theorem dIsN : OpD X (compareOp .Is) (gIsN false) := by
  refine ⟨_, op_isN, fun d e Q h H S u v Q' sh hd he k => ?_⟩
  refine ⟨isN_v he h.1, ?_⟩
  rw [isN_sound hd]
  simpa using k _ _ H S h.2 (.refl sh) .b
theorem dIsNotN : OpD X (compareOp .IsNot) (gIsN true) := by
  refine ⟨_, op_notN, fun d e Q h H S u v Q' sh hd he k => ?_⟩
  refine ⟨isN_v he h.1, ?_⟩
  rw [isN_sound hd]
  simpa using k _ _ H S h.2 (.refl sh) .b
def gIsB : D → D → (D → Prop) → Prop
  | .bl i, .bl j, Q => Q (.bl (decide (i = j)))
  | _, _, _ => False
theorem dIsB : OpD X (compareOp .Is) gIsB := by
  refine ⟨_, op_isBl, fun d e Q h H S u v Q' sh hd he k => ?_⟩
  unfold gIsB at h
  split at h
  · exact ⟨_, _, hd.b, he.b, k _ _ H S h (.refl sh) .b⟩
  · exact h.elim

/-! ### subscripts -/
def gIdx : D → D → (D → Prop) → Prop
  | .lst xs, .int i, Q => ∃ d, atI xs i = some d ∧ Q d
  | .tup xs, .int i, Q => ∃ d, atI xs i = some d ∧ Q d
  | .scr ns, .int i, Q => ∃ n, atI ns i = some n ∧ Q (.int n)
  | .str z, .int i, Q => z.length ≤ sizeLine ∧ ∃ c, atI z.cps.toList i = some c ∧ Q (.str ⟨#[c]⟩)
  | _, _, _ => False
theorem atI_dats {S : Hp} {xs : List D} {vs : List V} {i : Int} {d : D} (q : Dats S xs vs) (h : atI xs i = some d) : ∃ v, atI vs i = some v ∧ Dat S d v := by
  unfold atI at h ⊢
  rw [q.len]
  cases e : ixN xs.length i with
  | none => rw [e] at h; cases h
  | some j =>
    rw [e] at h
    exact q.get h
omit [KC] in
theorem ex_atI_map {α β : Type} {f : α → β} {xs : List α} {i : Int} {Q : β → Prop} : (∃ d, atI (xs.map f) i = some d ∧ Q d) ↔ ∃ a, atI xs i = some a ∧ Q (f a) := by
  rw [show atI (xs.map f) i = (atI xs i).map f from by
    unfold atI
    rw [List.length_map]
    cases ixN xs.length i with
    | none => rfl
    | some j => simp]
  constructor
  · rintro ⟨d, h, q⟩
    cases e : atI xs i with
    | none => rw [e] at h; cases h
    | some a =>
      rw [e] at h
      cases h
      exact ⟨a, rfl, q⟩
  · rintro ⟨a, h, q⟩
    exact ⟨f a, by rw [h]; rfl, q⟩
omit [KC] in
theorem atI0 {α : Type} {x : α} {r : List α} : atI (x :: r) 0 = some x := atI_nat (j := 0) rfl
omit [KC] in
theorem atI1 {α : Type} {x y : α} {r : List α} : atI (x :: y :: r) 1 = some y := atI_nat (j := 1) rfl
omit [KC] in
theorem atI2 {α : Type} {x y z : α} {r : List α} : atI (x :: y :: z :: r) 2 = some z := atI_nat (j := 2) rfl
omit [KC] in
theorem atI_map {α β : Type} {f : α → β} {xs : List α} {i : Int} : atI (xs.map f) i = (atI xs i).map f := by
  unfold atI
  rw [List.length_map]
  cases ixN xs.length i with
  | none => rfl
  | some j => simp
theorem ed_ix (ha : BD X E a wa) (hb : BD X E b wb) (hs : PlainIx b := by exact fun _ _ => rfl) (hK : X.K = KC.K := by rfl) : ED X E (.Subscript a b pos) (wOp gIdx wa wb) := by
  obtain ⟨ta, pa, sa⟩ := ha.ex
  obtain ⟨tb, pb, sb⟩ := hb.ex
  refine ⟨_, pe_ix ix_seq pa pb hs, fun x ρ Q hw F σ H S Q' rp ex k => ?_⟩
  refine sa x ρ _ hw F σ H S _ rp ex fun d u H1 S1 q1 g1 h1 => ?_
  refine sb x ρ _ q1 F σ H1 S1 _ (rp.grow g1) (ex.grow g1) fun e v H2 S2 q2 g2 h2 => ?_
  have g12 := g1.trans g2
  have h1 := h1.grow g2
  unfold gIdx at q2
  split at q2
  · obtain ⟨d, hd, q⟩ := q2
    obtain ⟨p, vs, rfl, r, z⟩ := h1
    obtain ⟨y, hy, hz⟩ := atI_dats z hd
    exact .inl ⟨p, vs, _, y, rfl, h2.i, .of r, hy, k _ _ H2 S2 q g12 hz⟩
  · obtain ⟨d, hd, q⟩ := q2
    simp only [BDat, Dat] at h1
    obtain ⟨p, vs, rfl, r, z⟩ := h1
    obtain ⟨y, hy, hz⟩ := atI_dats z hd
    exact .inr (.inl ⟨p, vs, _, y, rfl, h2.i, .of (g12.sh _ _ r), hy, k _ _ H2 S2 q g12 hz⟩)
  · obtain ⟨d, hd, q⟩ := q2
    simp only [BDat, Dat] at h1
    obtain ⟨p, rfl, r⟩ := h1
    exact .inl ⟨p, _, _, .int d, rfl, h2.i, by rw [hK]; exact g12.sh.seq r, by rw [atI_map, hd]; rfl, k _ _ H2 S2 q g12 .i⟩
  · obtain ⟨hz, c, hc, q⟩ := q2
    exact .inr (.inr ⟨_, _, c, h1.s, h2.i, hz, hc, k _ _ H2 S2 q g12 .s⟩)
  · exact q2.elim

/-! ### slices -/
structure OD (X : Cx) (E : XK) (e : Option Expr) (w : XS → Ev → (Option Int → Prop) → Prop) : Prop where
  ex : ∃ t, PO X e t ∧ ∀ (x : XS) (ρ : Ev) (Q : Option Int → Prop), w x ρ Q → ∀ (F : Fr) (σ : L2.St) (H S : Hp) (Q' : Option Int → Hp → Prop), Rep F ρ σ H S → ExOk X.mg E x H S →
    (∀ o H' S', Q o → Grow H S H' S' → Q' o H') → t σ H Q'
abbrev WO := XS → Ev → (Option Int → Prop) → Prop
def woNone : WO := fun _ _ Q => Q none
def woSome (wa : WE) : WO := fun x ρ Q => wa x ρ fun d => match d with
  | .int i => Q (some i)
  | _ => False
theorem od_none : OD X E none woNone := ⟨_, po_none, fun x ρ Q hw F σ H S Q' rp ex k => k none H S hw (.refl rp.sh)⟩
theorem od_some (ha : BD X E a wa) : OD X E (some a) (woSome wa) := by
  obtain ⟨t, p, s⟩ := ha.ex
  refine ⟨_, po_some p, fun x ρ Q hw F σ H S Q' rp ex k => ?_⟩
  refine s x ρ _ hw F σ H S _ rp ex fun d u H1 S1 q1 g1 h1 => ?_
  cases d with
  | int i => exact ⟨i, h1.i, k _ H1 S1 q1 g1⟩
  | _ => exact q1.elim
def cut {α : Type} (xs : List α) (lo hi : Option Int) : List α := (xs.drop (HT.sIx xs.length 0 lo)).take (HT.sIx xs.length xs.length hi - HT.sIx xs.length 0 lo)
omit [KC] in
theorem cut_map {α β : Type} (f : α → β) (xs : List α) (lo hi : Option Int) : cut (xs.map f) lo hi = (cut xs lo hi).map f := by
  unfold cut
  rw [List.length_map, List.map_take, List.map_drop]
theorem cut_dats {S : Hp} {xs : List D} {vs : List V} (q : Dats S xs vs) (lo hi : Option Int) : Dats S (cut xs lo hi) (cutV vs lo hi) := by
  unfold cut cutV
  rw [q.len]
  exact (q.drop _).take _
variable {lo hi : Option Expr} {wo wh : XS → Ev → (Option Int → Prop) → Prop} {p2 : Pos}
def gSl : D → Option Int → Option Int → (D → Prop) → Prop
  | .lst xs, l, h, Q => Q (.lst (cut xs l h))
  | .scr ns, l, h, Q => Q (.lst ((cut ns l h).map D.int))
  | .str z, l, h, Q => z.length ≤ sizeLine ∧ Q (.str (cutS z l h))
  | .tup xs, l, h, Q => ¬ (HT.sIx xs.length 0 l = 0 ∧ HT.sIx xs.length xs.length h = xs.length) ∧ Q (.tup (cut xs l h))
  | _, _, _, _ => False
theorem lay_tup {H S : Hp} {xs : List D} {vs : List V} {p : Addr} (sh : Same S H) (hp : H p = none) (q : Dats S xs vs) :
    Grow H S (upd H p (.tup vs)) (upd S p (.tup vs)) ∧ Dat (upd S p (.tup vs)) (.tup xs) (.ref p) := by
  have h0 := sh.free hp
  refine ⟨((Grow.refl sh).lay hp).share hp h0 upd_same, ?_⟩
  unfold Dat
  exact ⟨p, vs, rfl, upd_same, Dats.mono (same_upd h0) _ _ q⟩
def wSl (wa : WE) (wo wh : WO) : WE := fun x ρ Q => wa x ρ fun d => wo x ρ fun l => wh x ρ fun h => gSl d l h Q
theorem ed_sl (ha : BD X E a wa) (hl : OD X E lo wo) (hh : OD X E hi wh) (hK : X.K = KC.K := by rfl) : ED X E (.Subscript a (.Slice lo hi none p2) pos) (wSl wa wo wh) := by
  obtain ⟨ta, pa, sa⟩ := ha.ex
  obtain ⟨tl, pl, sl⟩ := hl.ex
  obtain ⟨th, ph, sh⟩ := hh.ex
  refine ⟨_, pe_slice (sl_list.or (sl_str.or sl_tup)) pa pl ph, fun x ρ Q hw F σ H S Q' rp ex k => ?_⟩
  refine sa x ρ _ hw F σ H S _ rp ex fun d u H1 S1 q1 g1 h1 => ?_
  refine sl x ρ _ q1 F σ H1 S1 _ (rp.grow g1) (ex.grow g1) fun l H2 S2 q2 g2 => ?_
  have g12 := g1.trans g2
  refine sh x ρ _ q2 F σ H2 S2 _ (rp.grow g12) (ex.grow g12) fun h H3 S3 q3 g3 => ?_
  have g13 := g12.trans g3
  have h1 := (h1.grow g2).grow g3
  unfold gSl at q3
  split at q3
  · obtain ⟨p, vs, rfl, r, z⟩ := h1
    refine .inl ⟨p, vs, rfl, .of r, fun p hp => ?_⟩
    obtain ⟨g, y⟩ := lay_lst g13.sh hp (cut_dats z l h)
    exact k _ _ _ _ q3 (g13.trans g) y
  · simp only [BDat, Dat] at h1
    obtain ⟨p, rfl, r⟩ := h1
    refine .inl ⟨p, _, rfl, by rw [hK]; exact g13.sh.seq r, fun p hp => ?_⟩
    obtain ⟨g, y⟩ := lay_lst g13.sh hp (cut_dats (Dats.ints _) l h)
    rw [cut_map] at y
    exact k _ _ _ _ q3 (g13.trans g) y
  · exact .inr (.inl ⟨_, h1.s, q3.1, k _ _ H3 S3 q3.2 g13 .s⟩)
  · simp only [BDat, Dat] at h1
    obtain ⟨p, vs, rfl, r, z⟩ := h1
    refine .inr (.inr ⟨p, vs, rfl, .of (g13.sh _ _ r), by rw [z.len]; exact q3.1, fun p hp => ?_⟩)
    obtain ⟨g, y⟩ := lay_tup g13.sh hp (cut_dats z l h)
    exact k _ _ _ _ q3.2 (g13.trans g) y
  · exact q3.elim
def gSlF : D → Option Int → Option Int → (List D → Prop) → Prop
  | .lst xs, l, h, Q => Q (cut xs l h)
  | .scr ns, l, h, Q => Q ((cut ns l h).map D.int)
  | _, _, _, _ => False
def wSlF (wa : WE) (wo wh : WO) : WL := fun x ρ Q => wa x ρ fun d => wo x ρ fun l => wh x ρ fun h => gSlF d l h Q
theorem df_sl (ha : BD X E a wa) (hl : OD X E lo wo) (hh : OD X E hi wh) (hK : X.K = KC.K := by rfl) : DF X E (.Subscript a (.Slice lo hi none p2) pos) (wSlF wa wo wh) := by
  obtain ⟨ta, pa, sa⟩ := ha.ex
  obtain ⟨tl, pl, sl⟩ := hl.ex
  obtain ⟨th, ph, sh⟩ := hh.ex
  refine ⟨_, pe_slice sl_list pa pl ph, fun x ρ Q hw F σ H S Q' rp ex k => ?_⟩
  refine sa x ρ _ hw F σ H S _ rp ex fun d u H1 S1 q1 g1 h1 => ?_
  refine sl x ρ _ q1 F σ H1 S1 _ (rp.grow g1) (ex.grow g1) fun l H2 S2 q2 g2 => ?_
  have g12 := g1.trans g2
  refine sh x ρ _ q2 F σ H2 S2 _ (rp.grow g12) (ex.grow g12) fun h H3 S3 q3 g3 => ?_
  have g13 := g12.trans g3
  have h1 := (h1.grow g2).grow g3
  unfold gSlF at q3
  split at q3
  · obtain ⟨p, vs, rfl, r, z⟩ := h1
    exact ⟨p, vs, rfl, .of r, fun p hp => k _ p _ _ S3 q3 (g13.lay hp) (g13.freeH hp) (g13.freeS hp) upd_same (cut_dats z l h)⟩
  · simp only [BDat, Dat] at h1
    obtain ⟨p, rfl, r⟩ := h1
    refine ⟨p, _, rfl, by rw [hK]; exact g13.sh.seq r, fun p hp => ?_⟩
    refine k _ p _ _ S3 q3 (g13.lay hp) (g13.freeH hp) (g13.freeS hp) upd_same ?_
    rw [← cut_map]
    exact cut_dats (Dats.ints _) l h
  · exact q3.elim
end
end NL

namespace NL
open PySem PySem.Spec L2
open PyProof.Rows hiding St
variable [KC]

/-! ### built-in functions by data -/
section
variable {X : Cx}
structure CalD (X : Cx) (f : Value) (g : List D → (D → Prop) → Prop) : Prop where
  ex : ∃ r : List V → Hp → VK → Prop, CallR X f r ∧ ∀ (ds : List D) (Q : D → Prop), g ds Q → ∀ (H S : Hp) (vs : List V) (Q' : VK), Same S H → BDats H S ds vs →
    (∀ z y H' S', Q z → Grow H S H' S' → Dat S' z y → Q' y H') → r vs H Q'
structure CalF (X : Cx) (f : Value) (g : List D → (List D → Prop) → Prop) : Prop where
  ex : ∃ r : List V → Hp → VK → Prop, CallR X f r ∧ ∀ (ds : List D) (Q : List D → Prop), g ds Q → ∀ (H S : Hp) (vs : List V) (Q' : VK), Same S H → BDats H S ds vs →
    (∀ z ws p, Q z → H p = none → Dats S z ws → Q' (.ref p) (upd H p (.lst ws))) → r vs H Q'
def wB (g : List D → (D → Prop) → Prop) (wl : WL) : WE := fun x ρ Q => wl x ρ fun ds => g ds Q
def wBF (g : List D → (List D → Prop) → Prop) (wl : WL) : WL := fun x ρ Q => wl x ρ fun ds => g ds Q
variable {E : XK} {e a b : Expr} {es : List Expr} {pos p : Pos} {x m : Str} {w wa wb : WE} {wl : WL}
theorem ed_callB {id : String} {g : List D → (D → Prop) → Prop} (hc : CalD X (.builtin id) g) (hg : Gl X x) (hm : X.mg x = none) (hv : bootBuiltins x = some (.builtin id)) (ha : AB X E (e :: es) wl) (hn : x ≠ "__name__" := by decide)
    (hdb : (x == ("__debug__" : Str)) = false := by decide) (he : starEach (e :: es) X.env = (false, eval e X.env) :: starEach es X.env := by rfl) (hpl : (backTo pos (starEach es X.env)).any (·.1) = false := by rfl) :
    ED X E (.Call (.Name x p) (e :: es) [] pos) (wB g wl) := by
  obtain ⟨r, o, so⟩ := hc.ex
  obtain ⟨t, pt, s⟩ := ha.ex
  refine ⟨_, pe_callB o hg hm hv pt hn hdb he hpl, fun x ρ Q hw F σ H S Q' rp ex k => ?_⟩
  refine s x ρ _ hw F σ H S _ rp ex fun ds vs H1 S1 q1 g1 h1 => ?_
  exact so ds Q q1 H1 S1 vs Q' g1.sh h1 fun z y H2 S2 q2 g2 h2 => k z y H2 S2 q2 (g1.trans g2) h2
theorem ed_callT {T : String} {g : List D → (D → Prop) → Prop} (hc : CalD X (.type T) g) (hg : Gl X x) (hm : X.mg x = none) (hv : bootBuiltins x = some (.type T)) (ha : AB X E (e :: es) wl) (hn : x ≠ "__name__" := by decide)
    (hdb : (x == ("__debug__" : Str)) = false := by decide) (he : starEach (e :: es) X.env = (false, eval e X.env) :: starEach es X.env := by rfl) (hpl : (backTo pos (starEach es X.env)).any (·.1) = false := by rfl) :
    ED X E (.Call (.Name x p) (e :: es) [] pos) (wB g wl) := by
  obtain ⟨r, o, so⟩ := hc.ex
  obtain ⟨t, pt, s⟩ := ha.ex
  refine ⟨_, pe_callTy o hg hm hv pt hn hdb he hpl, fun x ρ Q hw F σ H S Q' rp ex k => ?_⟩
  refine s x ρ _ hw F σ H S _ rp ex fun ds vs H1 S1 q1 g1 h1 => ?_
  exact so ds Q q1 H1 S1 vs Q' g1.sh h1 fun z y H2 S2 q2 g2 h2 => k z y H2 S2 q2 (g1.trans g2) h2
theorem df_callB {id : String} {g : List D → (List D → Prop) → Prop} (hc : CalF X (.builtin id) g) (hg : Gl X x) (hm : X.mg x = none) (hv : bootBuiltins x = some (.builtin id)) (ha : AB X E (e :: es) wl) (hn : x ≠ "__name__" := by decide)
    (hdb : (x == ("__debug__" : Str)) = false := by decide) (he : starEach (e :: es) X.env = (false, eval e X.env) :: starEach es X.env := by rfl) (hpl : (backTo pos (starEach es X.env)).any (·.1) = false := by rfl) :
    DF X E (.Call (.Name x p) (e :: es) [] pos) (wBF g wl) := by
  obtain ⟨r, o, so⟩ := hc.ex
  obtain ⟨t, pt, s⟩ := ha.ex
  refine ⟨_, pe_callB o hg hm hv pt hn hdb he hpl, fun x ρ Q hw F σ H S Q' rp ex k => ?_⟩
  refine s x ρ _ hw F σ H S _ rp ex fun ds vs H1 S1 q1 g1 h1 => ?_
  exact so ds Q q1 H1 S1 vs Q' g1.sh h1 fun z ws p q2 hp h2 => k z p ws _ S1 q2 (g1.lay hp) (g1.freeH hp) (g1.freeS hp) upd_same h2
theorem df_callT {T : String} {g : List D → (List D → Prop) → Prop} (hc : CalF X (.type T) g) (hg : Gl X x) (hm : X.mg x = none) (hv : bootBuiltins x = some (.type T)) (ha : AB X E (e :: es) wl) (hn : x ≠ "__name__" := by decide)
    (hdb : (x == ("__debug__" : Str)) = false := by decide) (he : starEach (e :: es) X.env = (false, eval e X.env) :: starEach es X.env := by rfl) (hpl : (backTo pos (starEach es X.env)).any (·.1) = false := by rfl) :
    DF X E (.Call (.Name x p) (e :: es) [] pos) (wBF g wl) := by
  obtain ⟨r, o, so⟩ := hc.ex
  obtain ⟨t, pt, s⟩ := ha.ex
  refine ⟨_, pe_callTy o hg hm hv pt hn hdb he hpl, fun x ρ Q hw F σ H S Q' rp ex k => ?_⟩
  refine s x ρ _ hw F σ H S _ rp ex fun ds vs H1 S1 q1 g1 h1 => ?_
  exact so ds Q q1 H1 S1 vs Q' g1.sh h1 fun z ws p q2 hp h2 => k z p ws _ S1 q2 (g1.lay hp) (g1.freeH hp) (g1.freeS hp) upd_same h2

def gLen : List D → (D → Prop) → Prop
  | [.str s], Q => s.length ≤ sizeLine ∧ Q (.int s.length)
  | [.lst xs], Q => Q (.int xs.length)
  | [.tup xs], Q => Q (.int xs.length)
  | [.scr xs], Q => Q (.int xs.length)
  | [.dct ks xs], Q => Q (.int xs.length)
  | _, _ => False
theorem BDats.one {H S : Hp} {d : D} {vs : List V} (h : BDats H S [d] vs) : ∃ v, vs = [v] ∧ BDat H S d v := by
  obtain ⟨v, r, e, h1, h2⟩ := h
  unfold BDats at h2
  subst h2
  exact ⟨v, e, h1⟩
theorem BDats.two {H S : Hp} {d d' : D} {vs : List V} (h : BDats H S [d, d'] vs) : ∃ v v', vs = [v, v'] ∧ BDat H S d v ∧ BDat H S d' v' := by
  obtain ⟨v, r, e, h1, v', r', e', h2, h3⟩ := h
  unfold BDats at h3
  subst h3
  subst e'
  exact ⟨v, v', e, h1, h2⟩
theorem cLen (hK : X.K = KC.K := by rfl) : CalD X (.builtin "len") gLen := by
  refine ⟨_, call_len.or call_lenD, fun ds Q h H S vs Q' sh hd k => ?_⟩
  unfold gLen at h
  split at h
  · obtain ⟨v, rfl, hz⟩ := hd.one
    cases hz.s
    exact .inl ⟨_, _, rfl, ⟨h.1, rfl⟩, k _ _ H S h.2 (.refl sh) .i⟩
  · obtain ⟨v, rfl, hz⟩ := hd.one
    obtain ⟨a, ws, rfl, r, z⟩ := hz
    exact .inl ⟨_, _, rfl, .inl ⟨ws, .of r, rfl⟩, by rw [z.len]; exact k _ _ H S h (.refl sh) .i⟩
  · obtain ⟨v, rfl, hz⟩ := hd.one
    simp only [BDat, Dat] at hz
    obtain ⟨a, ws, rfl, r, z⟩ := hz
    exact .inl ⟨_, _, rfl, .inr ⟨ws, .of (sh _ _ r), rfl⟩, by rw [z.len]; exact k _ _ H S h (.refl sh) .i⟩
  · obtain ⟨v, rfl, hz⟩ := hd.one
    simp only [BDat, Dat] at hz
    obtain ⟨a, rfl, r⟩ := hz
    exact .inl ⟨_, _, rfl, .inl ⟨_, (by rw [hK]; exact sh.seq r), rfl⟩, by rw [List.length_map]; exact k _ _ H S h (.refl sh) .i⟩
  · obtain ⟨v, rfl, hz⟩ := hd.one
    obtain ⟨a, kvs, rfl, r, z1, z2⟩ := hz
    refine .inr ⟨a, kvs, rfl, r, ?_⟩
    have := z2.len
    rw [List.length_map] at this
    rw [this]
    exact k _ _ H S h (.refl sh) .i
  · exact h.elim
def gInt1 (f : Int → Int) : List D → (D → Prop) → Prop
  | [.int i], Q => Q (.int (f i))
  | _, _ => False
theorem cAbs : CalD X (.builtin "abs") (gInt1 fun i => if i < 0 then -i else i) := by
  refine ⟨_, call_abs, fun ds Q h H S vs Q' sh hd k => ?_⟩
  unfold gInt1 at h
  split at h
  · obtain ⟨v, rfl, hz⟩ := hd.one
    cases hz.i
    exact ⟨_, rfl, k _ _ H S h (.refl sh) .i⟩
  · exact h.elim
def gInt2 (f : Int → Int → Int) : List D → (D → Prop) → Prop
  | [.int i, .int j], Q => Q (.int (f i j))
  | _, _ => False
theorem cMax (hc : X.calm = true) : CalD X (.builtin "max") (gInt2 fun i j => if j > i then j else i) := by
  refine ⟨_, call_max2 hc, fun ds Q h H S vs Q' sh hd k => ?_⟩
  unfold gInt2 at h
  split at h
  · obtain ⟨v, v', rfl, h1, h2⟩ := hd.two
    cases h1.i
    cases h2.i
    exact ⟨_, _, rfl, k _ _ H S h (.refl sh) .i⟩
  · exact h.elim
theorem cMin (hc : X.calm = true) : CalD X (.builtin "min") (gInt2 fun i j => if j < i then j else i) := by
  refine ⟨_, call_min2 hc, fun ds Q h H S vs Q' sh hd k => ?_⟩
  unfold gInt2 at h
  split at h
  · obtain ⟨v, v', rfl, h1, h2⟩ := hd.two
    cases h1.i
    cases h2.i
    exact ⟨_, _, rfl, k _ _ H S h (.refl sh) .i⟩
  · exact h.elim
def gToInt : List D → (D → Prop) → Prop
  | [.int i], Q => Q (.int i)
  | [.bl b], Q => Q (.int (if b then 1 else 0))
  | _, _ => False
theorem cInt : CalD X (.type "int") gToInt := by
  refine ⟨_, call_int1, fun ds Q h H S vs Q' sh hd k => ?_⟩
  unfold gToInt at h
  split at h
  · obtain ⟨v, rfl, hz⟩ := hd.one
    cases hz.i
    exact .inl ⟨_, rfl, k _ _ H S h (.refl sh) .i⟩
  · obtain ⟨v, rfl, hz⟩ := hd.one
    cases hz.b
    exact .inr ⟨_, rfl, k _ _ H S h (.refl sh) .i⟩
  · exact h.elim
def gListF : List D → (List D → Prop) → Prop
  | [.lst xs], Q => Q xs
  | [.tup xs], Q => Q xs
  | [.scr ns], Q => Q (ns.map D.int)
  | _, _ => False
theorem cListF (hK : X.K = KC.K := by rfl) : CalF X (.type "list") gListF := by
  refine ⟨_, call_list_of, fun ds Q h H S vs Q' sh hd k => ?_⟩
  unfold gListF at h
  split at h
  · obtain ⟨v, rfl, hz⟩ := hd.one
    obtain ⟨a, ws, rfl, r, z⟩ := hz
    exact ⟨a, ws, rfl, .inl (.of r), fun l hl => k _ _ _ h hl z⟩
  · obtain ⟨v, rfl, hz⟩ := hd.one
    simp only [BDat, Dat] at hz
    obtain ⟨a, ws, rfl, r, z⟩ := hz
    exact ⟨a, ws, rfl, .inr (.of (sh _ _ r)), fun l hl => k _ _ _ h hl z⟩
  · obtain ⟨v, rfl, hz⟩ := hd.one
    simp only [BDat, Dat] at hz
    obtain ⟨a, rfl, r⟩ := hz
    exact ⟨a, _, rfl, .inl (by rw [hK]; exact sh.seq r), fun l hl => k _ _ _ h hl (Dats.ints _)⟩
  · exact h.elim

/-! ### isinstance of a built-in type -/
def tyName : D → Option String
  | .non => some "NoneType"
  | .bl _ => some "bool"
  | .int _ => some "int"
  | .str _ => some "str"
  | .lst _ => some "list"
  | .tup _ => some "tuple"
  | .dct _ _ => some "dict"
  | _ => none
theorem tyName_sound {H S : Hp} {d : D} {v : V} {K : PySem.W.Frag} {n : String} (sh : Same S H) (h : BDat H S d v) (e : tyName d = some n) : TyX K H v (.type n) := by
  cases d with
  | non => cases e; cases h.n; exact .base .non
  | bl b => cases e; cases h.b; exact .base (.bl b)
  | int i => cases e; cases h.i; exact .base (.int i)
  | str s => cases e; cases h.s; exact .base (.str s)
  | lst xs => cases e; obtain ⟨a, vs, rfl, r, _⟩ := h; exact .base (.lst r)
  | scr ns => cases e
  | tup xs =>
    cases e
    simp only [BDat, Dat] at h
    obtain ⟨a, vs, rfl, r, _⟩ := h
    exact .base (.tup (sh _ _ r))
  | dct ks xs => cases e; obtain ⟨a, vs, rfl, r, _⟩ := h; exact .base (.dK r)
  | ref a => cases e
  | obj _ _ _ => cases e
  | dkz _ _ => cases e
def gIsT (T : String) (d : D) (Q : D → Prop) : Prop := ∃ n, tyName d = some n ∧ ∃ b, kitB n T = some b ∧ Q (.bl b)
def wIsT (T : String) (wa : WE) : WE := fun x ρ Q => wa x ρ fun d => gIsT T d Q
theorem ed_isT {T : String} {y : Str} {p2 : Pos} (hg : Gl X "isinstance") (hm : X.mg "isinstance" = none) (hgT : Gl X y) (hmT : X.mg y = none) (hvT : bootBuiltins y = some (.type T)) (ha : BD X E a wa)
    (hn : y ≠ "__name__" := by decide) (hd : (y == ("__debug__" : Str)) = false := by decide)
    (he : starEach (a :: [.Name y p2]) X.env = (false, eval a X.env) :: starEach [.Name y p2] X.env := by rfl) (he2 : starEach [.Name y p2] X.env = (false, eval (.Name y p2) X.env) :: starEach [] X.env := by rfl) (hpl : (backTo pos (starEach [.Name y p2] X.env)).any (·.1) = false := by rfl) :
    ED X E (.Call (.Name "isinstance" p) [a, .Name y p2] [] pos) (wIsT T wa) := by
  obtain ⟨t, pt, s⟩ := ha.ex
  have pT : PE X (.Name y p2) (tC (.ty T)) := pe_bltn hgT hmT hvT rfl hn hd
  refine ⟨_, pe_callB call_isi hg hm (by decide +kernel) (pa_cons pt (pa_cons pT pa_nil he2) he) (by decide) (by decide) he hpl, fun x ρ Q hw F σ H S Q' rp ex k => ?_⟩
  refine s x ρ _ hw F σ H S _ rp ex fun d u H1 S1 q1 g1 h1 => ?_
  obtain ⟨n, e1, b, e2, q⟩ := q1
  exact ⟨u, .ty T, .type n, .type T, b, rfl, .ty T, tyName_sound g1.sh h1 e1, kit_ty e2, k _ _ H1 S1 q g1 .b⟩

/-! ### a def's promise by data -/
inductive Rt where
  | val (d : D) | new (c : Cn) | newT (d : D)
/-- a new tuple; what it refers to is new, each but once -/
def FreshT (H S' : Hp) (v : V) : Prop := ∃ p vs, v = .ref p ∧ H p = none ∧ S' p = some (.tup vs) ∧ (∀ a, V.ref a ∈ vs → H a = none) ∧ ∀ (i j : Nat) (a : Addr), vs[i]? = some (V.ref a) → vs[j]? = some (V.ref a) → i = j
abbrev Spec := List D → XS → (Rt → Prop) → Prop
def RtP (H H' S' : Hp) : Rt → V → Prop
  | .val d, v => Dat S' d v
  | .new c, v => ∃ p o, v = .ref p ∧ H p = none ∧ S' p = none ∧ H' p = some o ∧ CnOk S' c o
  | .newT d, v => Dat S' d v ∧ FreshT H S' v
def spOf (mg : Str → Option Value) (sp : Spec) : Sp := fun vs H Q E => ∃ ds S x R, (Same S H ∧ LamX.Tabs KC.T H) ∧ Dats S ds vs ∧ sp ds x R ∧
  (∀ r v H' S', R r → Grow H S H' S' → RtP H H' S' r v → Q v H') ∧ (∀ n C H' S', x n → mg n = some (.ref C) → Grow H S H' S' → E (.ref C) none H')
def Rt.d : Rt → D
  | .val d => d
  | .new c => c.d
  | .newT d => d
/-- a def is asked; what comes behind is not looked at -/
def Ask (sp : Spec) (ds : List D) (x : XS) (K : Rt → Prop) (_ : Tg K) : Prop := sp ds x K
def wCall (sp : Spec) (wl : WL) : WE := fun x ρ Q => wl x ρ fun ds => Ask sp ds x (fun r => Q r.d) ⟨⟩
theorem RtP.dat {H S H' S' : Hp} (g : Grow H S H' S') : ∀ {r : Rt} {v : V}, RtP H H' S' r v → ∃ S2, Grow H S H' S2 ∧ Dat S2 r.d v
  | .val d, v, h => ⟨S', g, h⟩
  | .newT d, v, h => ⟨S', g, h.1⟩
  | .new c, v, ⟨p, o, e, h0, h1, h2, h3⟩ => ⟨upd S' p o, g.share h0 h1 h2, by
      subst e
      exact CnOk.dat upd_same (h3.mono (same_upd h1))⟩
variable {k : Nat} {f : Addr} {fd : FuncData} {ps : List Str} {sp : Spec}
theorem ed_call (G : FnOk X.prog X.w X.K X.mg X.base (L2.CX X.prog X.w) k f fd ps (spOf X.mg sp)) (hr : Room k X.A) (xk : XOk X E) (hg : Gl X x) (hm : X.mg x = some (.ref f)) (hk : PySem.W.keepIn X.K (.ref f) = true) (hb : Binds X.K fd ps [])
    (ha : AD X E (e :: es) wl) (hdb : (x == ("__debug__" : Str)) = false := by decide) (he : starEach (e :: es) X.env = (false, eval e X.env) :: starEach es X.env := by rfl) (hpl : (backTo pos (starEach es X.env)).any (·.1) = false := by rfl) :
    ED X E (.Call (.Name x p) (e :: es) [] pos) (wCall sp wl) := by
  obtain ⟨t, pt, s⟩ := ha.ex
  refine ⟨_, pe_call G hr hg hm hk hb .nil xk.pass pt hdb he hpl, fun x ρ Q hw F σ H S Q' rp ex k => ?_⟩
  refine s x ρ _ hw F σ H S _ rp ex fun ds vs H1 S1 q1 g1 h1 => ?_
  refine ⟨ds, S1, x, _, ⟨g1.sh, (rp.grow g1).fg.tb⟩, by rw [List.append_nil]; exact h1, q1, fun r v H2 S2 q2 g2 h2 => ?_, fun n C H2 S2 xn hC g2 => ex n C H2 S2 xn hC (g1.trans g2)⟩
  obtain ⟨S3, g3, h3⟩ := h2.dat g2
  exact k _ _ H2 S3 q2 (g1.trans g3) h3
theorem ed_call0 (G : FnOk X.prog X.w X.K X.mg X.base (L2.CX X.prog X.w) k f fd ps (spOf X.mg sp)) (hr : Room k X.A) (xk : XOk X E) (hg : Gl X x) (hm : X.mg x = some (.ref f)) (hk : PySem.W.keepIn X.K (.ref f) = true) (hb : Binds X.K fd ps [])
    (hdb : (x == ("__debug__" : Str)) = false := by decide) : ED X E (.Call (.Name x p) [] [] pos) (wCall sp wNil) := by
  refine ⟨_, pe_call0 G hr hg hm hk hb .nil xk.pass hdb, fun x ρ Q hw F σ H S Q' rp ex k => ?_⟩
  refine ⟨[], S, x, _, ⟨rp.sh, rp.fg.tb⟩, .nil, hw, fun r v H2 S2 q2 g2 h2 => ?_, fun n C H2 S2 xn hC g2 => ex n C H2 S2 xn hC g2⟩
  obtain ⟨S3, g3, h3⟩ := h2.dat g2
  exact k _ _ H2 S3 q2 g3 h3
/-- a call whose result is a new list, nobody else's -/
def onNew (Q : List D → Prop) : Rt → Prop
  | .new (.lst xs) => Q xs
  | _ => False
def wCallF (sp : Spec) (wl : WL) : WL := fun x ρ Q => wl x ρ fun ds => Ask sp ds x (onNew Q) ⟨⟩
theorem df_call (G : FnOk X.prog X.w X.K X.mg X.base (L2.CX X.prog X.w) k f fd ps (spOf X.mg sp)) (hr : Room k X.A) (xk : XOk X E) (hg : Gl X x) (hm : X.mg x = some (.ref f)) (hk : PySem.W.keepIn X.K (.ref f) = true) (hb : Binds X.K fd ps [])
    (ha : AD X E (e :: es) wl) (hdb : (x == ("__debug__" : Str)) = false := by decide) (he : starEach (e :: es) X.env = (false, eval e X.env) :: starEach es X.env := by rfl) (hpl : (backTo pos (starEach es X.env)).any (·.1) = false := by rfl) :
    DF X E (.Call (.Name x p) (e :: es) [] pos) (wCallF sp wl) := by
  obtain ⟨t, pt, s⟩ := ha.ex
  refine ⟨_, pe_call G hr hg hm hk hb .nil xk.pass pt hdb he hpl, fun x ρ Q hw F σ H S Q' rp ex k => ?_⟩
  refine s x ρ _ hw F σ H S _ rp ex fun ds vs H1 S1 q1 g1 h1 => ?_
  refine ⟨ds, S1, x, _, ⟨g1.sh, (rp.grow g1).fg.tb⟩, by rw [List.append_nil]; exact h1, q1, fun r v H2 S2 q2 g2 h2 => ?_, fun n C H2 S2 xn hC g2 => ex n C H2 S2 xn hC (g1.trans g2)⟩
  cases r with
  | val d => exact q2.elim
  | newT d => exact q2.elim
  | new c =>
    cases c with
    | dct _ _ => exact q2.elim
    | obj _ _ _ => exact q2.elim
    | lst xs =>
      obtain ⟨p, o, rfl, z0, z1, z2, ws, rfl, z3⟩ := h2
      exact k xs p ws H2 S2 q2 (g1.trans g2) (g1.freeH z0) z1 z2 z3
/-! a call with things that a slot owns: they are read, and none of them is in what comes back -/
mutual
def nl : D → Bool
  | .tup xs => nls xs
  | .lst _ => false
  | .dct _ _ => false
  | .dkz _ _ => false
  | .obj _ _ _ => false
  | .scr _ => false
  | _ => true
def nls : List D → Bool
  | [] => true
  | x :: xs => nl x && nls xs
end
def tops : List V → Addr → Bool
  | [], _ => false
  | .ref p :: r, a => (p == a) || tops r a
  | _ :: r, a => tops r a
open Classical in
noncomputable def plusS (H S : Hp) (vs : List V) : Hp := fun a => if S a = none ∧ tops vs a = true ∧ ∃ o, H a = some o ∧ (∀ xs, o ≠ .tup xs) then H a else S a
open Classical in
noncomputable def minusS (H S S' : Hp) (vs : List V) : Hp := fun a => if S a = none ∧ tops vs a = true ∧ ∃ o, H a = some o ∧ (∀ xs, o ≠ .tup xs) then none else S' a
theorem plus_same {H S : Hp} {vs : List V} : Same S (plusS H S vs) := fun a o h => by
  unfold plusS
  rw [if_neg (fun z => by rw [z.1] at h; cases h)]
  exact h
theorem plus_sh {H S : Hp} {vs : List V} (sh : Same S H) : Same (plusS H S vs) H := fun a o h => by
  unfold plusS at h
  split at h
  · exact h
  · exact sh a o h
theorem plus_in {H S : Hp} {vs : List V} {p : Addr} {o : HO} (sh : Same S H) (h : H p = some o) (ht : tops vs p = true) (ho : ∀ xs, o ≠ .tup xs) : plusS H S vs p = some o := by
  unfold plusS
  by_cases c : S p = none
  · rw [if_pos ⟨c, ht, o, h, ho⟩]
    exact h
  · rw [if_neg (fun z => c z.1)]
    cases q : S p with
    | none => exact absurd q c
    | some u =>
      have := sh p u q
      rw [h] at this
      exact this.symm
theorem plus_dats {H S : Hp} (sh : Same S H) : ∀ {ds : List D} {vs ws : List V}, BDats H S ds vs → (∀ a, tops vs a = true → tops ws a = true) → Dats (plusS H S ws) ds vs
  | [], vs, ws, h, _ => by unfold BDats at h; subst h; exact .nil
  | d :: ds, vs, ws, ⟨v, r, e, h, q⟩, ht => by
    subst e
    refine .cons ?_ (plus_dats sh q fun a ha => ht a ?_)
    · cases d with
      | lst xs =>
        obtain ⟨a, us, rfl, ra, z⟩ := h
        exact .lstOf (plus_in sh ra (ht a (by simp [tops])) (fun _ z => by cases z)) (Dats.mono plus_same _ _ z)
      | dct ks xs =>
        obtain ⟨a, us, rfl, ra, z1, z2⟩ := h
        unfold Dat
        exact ⟨a, us, rfl, plus_in sh ra (ht a (by simp [tops])) (fun _ z => by cases z), z1, Dats.mono plus_same _ _ z2⟩
      | non => exact Dat.mono plus_same .non v h
      | bl b => exact Dat.mono plus_same (.bl b) v h
      | int b => exact Dat.mono plus_same (.int b) v h
      | str b => exact Dat.mono plus_same (.str b) v h
      | ref b => exact Dat.mono plus_same (.ref b) v h
      | dkz ks b => exact Dat.mono plus_same (.dkz ks b) v h
      | obj c fs xs =>
        obtain ⟨a, dx, us, rfl, ra, z1, z2⟩ := h
        unfold Dat
        exact ⟨a, dx, us, rfl, plus_in sh ra (ht a (by simp [tops])) (fun _ z => by cases z), z1, Dats.mono plus_same _ _ z2⟩
      | scr b => exact Dat.mono plus_same (.scr b) v h
      | tup b => exact Dat.mono plus_same (.tup b) v h
    · cases v <;> simp_all [tops]
theorem minus_grow {H S H' S' : Hp} {vs : List V} (sh : Same S H) (g : Grow H (plusS H S vs) H' S') : Grow H S H' (minusS H S S' vs) := by
  refine ⟨g.hh, fun a o h => ?_, fun a o h => ?_, fun a ha => ?_⟩
  · unfold minusS
    rw [if_neg (fun z => by rw [z.1] at h; cases h)]
    exact g.ss a o (plus_same a o h)
  · unfold minusS at h
    split at h
    · cases h
    · exact g.sh a o h
  · unfold minusS
    split
    · rename_i z
      exact z.1.symm
    · rename_i z
      rw [g.nw a ha]
      unfold plusS
      rw [if_neg z]
mutual
theorem minus_dat {H S H' S' : Hp} {vs : List V} (g : Grow H (plusS H S vs) H' S') : ∀ (d : D) (v : V), nl d = true → Dat S' d v → Dat (minusS H S S' vs) d v
  | .non, v, _, h => by unfold Dat at h ⊢; exact h
  | .bl _, v, _, h => by unfold Dat at h ⊢; exact h
  | .int _, v, _, h => by unfold Dat at h ⊢; exact h
  | .str _, v, _, h => by unfold Dat at h ⊢; exact h
  | .ref _, v, _, h => by unfold Dat at h ⊢; exact h
  | .scr _, v, n, _ => by simp [nl] at n
  | .lst _, v, n, _ => by simp [nl] at n
  | .dct _ _, v, n, _ => by simp [nl] at n
  | .dkz _ _, v, n, _ => by simp [nl] at n
  | .obj _ _ _, v, n, _ => by simp [nl] at n
  | .tup xs, v, n, h => by
    unfold Dat at h ⊢
    obtain ⟨a, ws, e, r, z⟩ := h
    refine ⟨a, ws, e, ?_, minus_dats g xs ws (by simpa [nl] using n) z⟩
    unfold minusS
    rw [if_neg]
    · exact r
    · rintro ⟨z1, z2, o, ho, hn⟩
      have e1 : plusS H S vs a = some o := by
        unfold plusS
        rw [if_pos ⟨z1, z2, o, ho, hn⟩]
        exact ho
      have e2 := g.ss a o e1
      rw [r] at e2
      cases e2
      exact hn ws rfl
theorem minus_dats {H S H' S' : Hp} {vs : List V} (g : Grow H (plusS H S vs) H' S') : ∀ (xs : List D) (ws : List V), nls xs = true → Dats S' xs ws → Dats (minusS H S S' vs) xs ws
  | [], _, _, h => by unfold Dats at h ⊢; exact h
  | x :: xs, _, n, h => by
    unfold Dats at h ⊢
    obtain ⟨v, r, e, h1, h2⟩ := h
    have n' : nl x = true ∧ nls xs = true := by simpa [nls] using n
    exact ⟨v, r, e, minus_dat g x v n'.1 h1, minus_dats g xs r n'.2 h2⟩
end
def nlR : Rt → Bool
  | .val d => nl d
  | .new (.lst xs) => nls xs
  | .new (.dct _ xs) => false
  | .new (.obj _ _ xs) => false
  | .newT d => nl d
theorem minus_rt {H S H' S' : Hp} {vs : List V} (g : Grow H (plusS H S vs) H' S') : ∀ {r : Rt} {v : V}, nlR r = true → RtP H H' S' r v → RtP H H' (minusS H S S' vs) r v
  | .val d, v, n, h => minus_dat g d v n h
  | .new (.dct _ _), v, n, _ => by cases n
  | .new (.obj _ _ _), v, n, _ => by cases n
  | .newT d, v, n, ⟨h, p, us, e, h0, h1, h2⟩ => ⟨minus_dat g d v n h, p, us, e, h0, by
      unfold minusS
      rw [if_neg (fun z => by
        obtain ⟨_, _, o, z, w⟩ := z
        have := g.sh p _ h1
        by_cases y : H p = none
        · rw [y] at z; cases z
        · exact y h0)]
      exact h1, h2⟩
  | .new (.lst xs), v, n, ⟨p, o, e, h0, h1, h2, ws, h3, h4⟩ => by
    refine ⟨p, o, e, h0, ?_, h2, ws, h3, minus_dats g xs ws n h4⟩
    unfold minusS
    split
    · rfl
    · exact h1
def wCallN (sp : Spec) (wl : WL) : WE := fun x ρ Q => wl x ρ fun ds => Ask sp ds x (fun r => nlR r = true ∧ Q r.d) ⟨⟩
def wCallNF (sp : Spec) (wl : WL) : WL := fun x ρ Q => wl x ρ fun ds => Ask sp ds x (onNew fun xs => nls xs = true ∧ Q xs) ⟨⟩
theorem ed_callN (G : FnOk X.prog X.w X.K X.mg X.base (L2.CX X.prog X.w) k f fd ps (spOf X.mg sp)) (hr : Room k X.A) (xk : XOk X E) (hg : Gl X x) (hm : X.mg x = some (.ref f)) (hk : PySem.W.keepIn X.K (.ref f) = true) (hb : Binds X.K fd ps [])
    (ha : AB X E (e :: es) wl) (hdb : (x == ("__debug__" : Str)) = false := by decide) (he : starEach (e :: es) X.env = (false, eval e X.env) :: starEach es X.env := by rfl) (hpl : (backTo pos (starEach es X.env)).any (·.1) = false := by rfl) :
    ED X E (.Call (.Name x p) (e :: es) [] pos) (wCallN sp wl) := by
  obtain ⟨t, pt, s⟩ := ha.ex
  refine ⟨_, pe_call G hr hg hm hk hb .nil xk.pass pt hdb he hpl, fun x ρ Q hw F σ H S Q' rp ex k => ?_⟩
  refine s x ρ _ hw F σ H S _ rp ex fun ds vs H1 S1 q1 g1 h1 => ?_
  refine ⟨ds, plusS H1 S1 vs, x, _, ⟨plus_sh g1.sh, (rp.grow g1).fg.tb⟩, by rw [List.append_nil]; exact plus_dats g1.sh h1 fun _ h => h, q1, fun r v H2 S2 q2 g2 h2 => ?_, fun n C H2 S2 xn hC g2 => ex n C H2 _ xn hC (g1.trans (minus_grow g1.sh g2))⟩
  obtain ⟨S3, g3, h3⟩ := (minus_rt g2 q2.1 h2).dat (minus_grow g1.sh g2)
  exact k _ _ H2 S3 q2.2 (g1.trans g3) h3
theorem df_callN (G : FnOk X.prog X.w X.K X.mg X.base (L2.CX X.prog X.w) k f fd ps (spOf X.mg sp)) (hr : Room k X.A) (xk : XOk X E) (hg : Gl X x) (hm : X.mg x = some (.ref f)) (hk : PySem.W.keepIn X.K (.ref f) = true) (hb : Binds X.K fd ps [])
    (ha : AB X E (e :: es) wl) (hdb : (x == ("__debug__" : Str)) = false := by decide) (he : starEach (e :: es) X.env = (false, eval e X.env) :: starEach es X.env := by rfl) (hpl : (backTo pos (starEach es X.env)).any (·.1) = false := by rfl) :
    DF X E (.Call (.Name x p) (e :: es) [] pos) (wCallNF sp wl) := by
  obtain ⟨t, pt, s⟩ := ha.ex
  refine ⟨_, pe_call G hr hg hm hk hb .nil xk.pass pt hdb he hpl, fun x ρ Q hw F σ H S Q' rp ex k => ?_⟩
  refine s x ρ _ hw F σ H S _ rp ex fun ds vs H1 S1 q1 g1 h1 => ?_
  refine ⟨ds, plusS H1 S1 vs, x, _, ⟨plus_sh g1.sh, (rp.grow g1).fg.tb⟩, by rw [List.append_nil]; exact plus_dats g1.sh h1 fun _ h => h, q1, fun r v H2 S2 q2 g2 h2 => ?_, fun n C H2 S2 xn hC g2 => ex n C H2 _ xn hC (g1.trans (minus_grow g1.sh g2))⟩
  cases r with
  | val d => exact q2.elim
  | newT d => exact q2.elim
  | new c =>
    cases c with
    | dct _ _ => exact q2.elim
    | obj _ _ _ => exact q2.elim
    | lst xs =>
      obtain ⟨p, o, rfl, z0, z1, z2, ws, rfl, z3⟩ := minus_rt (r := .new (.lst xs)) g2 q2.1 h2
      exact k xs p ws H2 _ q2.2 (g1.trans (minus_grow g1.sh g2)) (g1.freeH z0) z1 z2 z3
end
end NL

namespace NL
open PySem PySem.Spec L2
open PyProof.Rows hiding St
variable [KC]

/-! ### the readings that a data word gives, in any context -/
def canE (mg : Str → Option Value) (E : XK) (w : WE) : TE := fun σ H Q' => ∃ (x : XS) (ρ : Ev) (Q : D → Prop) (F : Fr) (S : Hp), w x ρ Q ∧ Rep F ρ σ H S ∧ ExOk mg E x H S ∧ ∀ d v H' S', Q d → Grow H S H' S' → Dat S' d v → Q' v H'
def canT (mg : Str → Option Value) (E : XK) (w : WT) : TT := fun σ H Q' => ∃ (x : XS) (ρ : Ev) (Q : Bool → Prop) (F : Fr) (S : Hp), w x ρ Q ∧ Rep F ρ σ H S ∧ ExOk mg E x H S ∧ ∀ b H' S', Q b → Grow H S H' S' → Q' b H'
theorem ED.can {X : Cx} {E : XK} {e : Expr} {w : WE} (h : ED X E e w) : PE X e (canE X.mg E w) := by
  obtain ⟨t, p, s⟩ := h.ex
  refine ⟨fun pins st σ H Q I hq => ?_⟩
  obtain ⟨x, ρ, Q2, F, S, h1, h2, h3, h4⟩ := hq
  exact p.run pins st σ H Q I (s x ρ Q2 h1 F σ H S Q h2 h3 h4)
theorem TD.can {X : Cx} {E : XK} {e : Expr} {w : WT} (h : TD X E e w) : PT X e (canT X.mg E w) := by
  obtain ⟨t, p, s⟩ := h.ex
  refine ⟨fun pins st σ H Q I hq => ?_⟩
  obtain ⟨x, ρ, Q2, F, S, h1, h2, h3, h4⟩ := hq
  exact p.run pins st σ H Q I (s x ρ Q2 h1 F σ H S Q h2 h3 h4)

/-! ### targets -/
theorem wipe_get (σ : L2.St) (j : Nat) : ∀ vs : List Nat, (wipe σ vs)[j]? = if j ∈ vs then σ[j]?.map (fun _ => none) else σ[j]?
  | [] => by simp [wipe]
  | v :: vs => by
    have ih := wipe_get σ j vs
    unfold wipe
    by_cases h : v = j
    · subst h
      rw [List.getElem?_set, if_pos rfl, wipe_length, if_pos (show v ∈ v :: vs by simp)]
      by_cases hl : v < σ.length
      · rw [if_pos hl, List.getElem?_eq_getElem hl]; rfl
      · rw [if_neg hl, List.getElem?_eq_none (by omega)]; rfl
    · rw [List.getElem?_set_ne h, ih]
      have : (j ∈ v :: vs) ↔ j ∈ vs := by
        rw [List.mem_cons]
        exact ⟨fun z => z.elim (fun z => absurd z.symm h) id, .inr⟩
      simp only [this]
theorem wipe_set {σ : L2.St} {i : Nat} {x : Option V} {vs : List Nat} (h : i ∈ vs) : wipe (σ.set i x) vs = wipe σ vs := by
  apply List.ext_getElem?
  intro j
  rw [wipe_get, wipe_get]
  by_cases hj : j ∈ vs
  · rw [if_pos hj, if_pos hj]
    by_cases e : i = j
    · subst e
      rw [List.getElem?_set, if_pos rfl]
      by_cases hl : i < σ.length
      · rw [if_pos hl, List.getElem?_eq_getElem hl]; rfl
      · rw [if_neg hl, List.getElem?_eq_none (by omega)]
    · rw [List.getElem?_set_ne e]
  · rw [if_neg hj, if_neg hj, List.getElem?_set_ne (fun e => hj (by rw [← e]; exact h))]
theorem wipe_wipe {σ : L2.St} {vs : List Nat} : wipe (wipe σ vs) vs = wipe σ vs := by
  apply List.ext_getElem?
  intro j
  rw [wipe_get, wipe_get]
  by_cases hj : j ∈ vs
  · rw [if_pos hj, if_pos hj]
    cases σ[j]? <;> rfl
  · rw [if_neg hj, if_neg hj]
def wipeE (ρ : Ev) : List Nat → Ev
  | [] => ρ
  | v :: vs => (wipeE ρ vs).set v .un
theorem Rep.wipe {F : Fr} {ρ : Ev} {σ : L2.St} {H S : Hp} (r : Rep F ρ σ H S) : ∀ vs : List Nat, Rep F (wipeE ρ vs) (L2.wipe σ vs) H S
  | [] => r
  | v :: vs => (r.wipe vs).unset
abbrev WG := D → Ev → (Ev → Prop) → Prop
structure GD (X : Cx) (tg : Expr) (is : List Nat) (g : WG) : Prop where
  ex : ∃ t, PG X tg t ∧ ∀ (d : D) (ρ : Ev) (Q : Ev → Prop), g d ρ Q → ∀ (F : Fr) (σ : L2.St) (H S : Hp) (v : V) (Q' : L2.St → Hp → Prop), Rep F ρ σ H S → Dat S d v →
    (∀ ρ' σ', Q ρ' → Rep F ρ' σ' H S → (∀ vs : List Nat, (∀ i ∈ is, i ∈ vs) → wipe σ' vs = wipe σ vs) → Q' σ' H) → t v σ H Q'
abbrev WGs := List D → Ev → (Ev → Prop) → Prop
structure GDs (X : Cx) (tgs : List Expr) (is : List Nat) (g : WGs) : Prop where
  ex : ∃ t, PGs X tgs t ∧ ∀ (ds : List D) (ρ : Ev) (Q : Ev → Prop), g ds ρ Q → ∀ (F : Fr) (σ : L2.St) (H S : Hp) (vs : List V) (Q' : L2.St → Hp → Prop), Rep F ρ σ H S → Dats S ds vs →
    (∀ ρ' σ', Q ρ' → Rep F ρ' σ' H S → (∀ vs : List Nat, (∀ i ∈ is, i ∈ vs) → wipe σ' vs = wipe σ vs) → Q' σ' H) → t vs σ H Q'
def canG (g : WG) (is : List Nat) : TG := fun v σ H Q' => ∃ (d : D) (ρ : Ev) (Q : Ev → Prop) (F : Fr) (S : Hp), g d ρ Q ∧ Rep F ρ σ H S ∧ Dat S d v ∧ ∀ ρ' σ', Q ρ' → Rep F ρ' σ' H S → (∀ vs : List Nat, (∀ i ∈ is, i ∈ vs) → wipe σ' vs = wipe σ vs) → Q' σ' H
section
variable {X : Cx} {E : XK} {pos : Pos}
theorem GD.can {tg : Expr} {is : List Nat} {g : WG} (h : GD X tg is g) : PG X tg (canG g is) := by
  obtain ⟨t, p, s⟩ := h.ex
  refine ⟨fun pins st σ H v u Q I r hq => ?_⟩
  obtain ⟨d, ρ, Q2, F, S, h1, h2, h3, h4⟩ := hq
  exact p.run pins st σ H v u Q I r (s d ρ Q2 h1 F σ H S v Q h2 h3 h4)
def wgName (i : Nat) : WG := fun d ρ Q => Q (ρ.set i (.fz d))
theorem gd_name (i : Nat) {x : Str} (hN : X.N.Nodup) (hi : X.N[i]? = some x := by rfl) (hx : Loc X.env.scope x := by first | exact Or.inl rfl | exact Or.inr rfl) (hf : X.fn x = true ∨ X.env.scope.names.lookup x = some .local := by first | exact .inl rfl | exact .inr rfl) : GD X (.Name x pos) [i] (wgName i) :=
  ⟨_, pg_name hN hi hx hf, fun d ρ Q hw F σ H S v Q' rp hd k => k _ _ hw (rp.set hd) fun vs h => wipe_set (h i (by simp))⟩
def wgNil : WGs := fun ds ρ Q => match ds with
  | [] => Q ρ
  | _ => False
def wgCons (g : WG) (gs : WGs) : WGs := fun ds ρ Q => match ds with
  | d :: r => g d ρ fun ρ1 => gs r ρ1 Q
  | _ => False
theorem gds_nil : GDs X [] [] wgNil := by
  refine ⟨_, pgs_nil, fun ds ρ Q hw F σ H S vs Q' rp hd k => ?_⟩
  cases ds with
  | nil =>
    unfold Dats at hd
    exact ⟨hd, k _ _ hw rp fun _ _ => rfl⟩
  | cons _ _ => exact hw.elim
theorem gds_cons {e : Expr} {es : List Expr} {is js : List Nat} {g : WG} {gs : WGs} (h1 : GD X e is g) (h2 : GDs X es js gs)
    (hs : (assignEach (e :: es) X.env).map (·.2) = assign e X.env :: (assignEach es X.env).map (·.2) := by rfl) : GDs X (e :: es) (is ++ js) (wgCons g gs) := by
  obtain ⟨t, p, s⟩ := h1.ex
  obtain ⟨t', p', s'⟩ := h2.ex
  refine ⟨_, pgs_cons p p' hs, fun ds ρ Q hw F σ H S vs Q' rp hd k => ?_⟩
  cases ds with
  | nil => exact hw.elim
  | cons d r =>
    unfold Dats at hd
    obtain ⟨v, ws, e, q1, q2⟩ := hd
    refine ⟨v, ws, e, s d ρ _ hw F σ H S v _ rp q1 fun ρ1 σ1 h1 r1 w1 => s' r ρ1 _ h1 F σ1 H S ws _ r1 q2 fun ρ2 σ2 h2 r2 w2 => k _ _ h2 r2 fun vs hv => ?_⟩
    rw [w2 vs (fun i hi => hv i (List.mem_append_right _ hi)), w1 vs (fun i hi => hv i (List.mem_append_left _ hi))]
def wgTup (n : Nat) (gs : WGs) : WG := fun d ρ Q => match d with
  | .tup ds => ds.length = n ∧ gs ds ρ Q
  | _ => False
theorem gd_tup {es : List Expr} {k : Nat} {is : List Nat} {gs : WGs} {n : Nat} (hc : X.calm = true) (h : GDs X es is gs) (hn : (assignEach es X.env).length = n := by rfl) (hst : (assignEach es X.env).findIdx? (·.1) = none := by rfl) :
    GD X (.Tuple es k pos) is (wgTup n gs) := by
  obtain ⟨t, p, s⟩ := h.ex
  refine ⟨_, pg_tup hc p hn hst, fun d ρ Q hw F σ H S v Q' rp hd k => ?_⟩
  cases d with
  | tup ds =>
    unfold Dat at hd
    obtain ⟨a, vs, rfl, r, q⟩ := hd
    exact ⟨a, vs, rfl, .of (rp.sh _ _ r), by rw [q.len]; exact hw.1, s ds ρ _ hw.2 F σ H S vs _ rp q k⟩
  | _ => exact hw.elim

/-! ### what is walked -/
def ItOk (J : It) (S0 : Hp) (ds : List D) : Prop := ∀ (i : Nat) (H S : Hp), Same S0 S → Same S H →
  (∀ d, ds[i]? = some d → J.go i H ∧ ∀ x H', J.yld i H x H' → ∃ S', Grow H S H' S' ∧ Dat S' d x) ∧ (ds.length ≤ i → J.stop i H)
structure ID (X : Cx) (E : XK) (tg iter : Expr) (w : WL) : Prop where
  ex : ∃ wi, PI X tg iter wi ∧ ∀ (x : XS) (ρ : Ev) (Q : List D → Prop), w x ρ Q → ∀ (F : Fr) (σ : L2.St) (H S : Hp) (R : It → Hp → Prop), Rep F ρ σ H S → ExOk X.mg E x H S →
    (∀ ds J H' S', Q ds → Grow H S H' S' → ItOk J S' ds → R J H') → wi σ H R
theorem sql_inj {K : PySem.W.Frag} : True := trivial
/-- a shared list, by its items -/
theorem it_list {K : PySem.W.Frag} {S0 : Hp} {a : Addr} {vs : List V} {ds : List D} (h : ∀ H, Same S0 H → SqL K H a vs) (q : Dats S0 ds vs) : ItOk (Itl K a) S0 ds := fun i H S e1 e2 => by
  have hs : SqL K H a vs := h H (e1.trans e2)
  refine ⟨fun d hd => ?_, fun hl => ⟨vs, hs, by rw [q.len]; exact hl⟩⟩
  obtain ⟨v, hv, hz⟩ := q.get hd
  refine ⟨⟨vs, v, hs, hv⟩, fun x H' y => ?_⟩
  obtain ⟨e, y⟩ := y
  subst e
  have := y vs hs
  rw [hv] at this
  cases this
  exact ⟨S, .refl e2, Dat.mono e1 _ _ hz⟩
def wSeq (wa : WE) : WL := fun x ρ Q => wa x ρ fun d => match d with
  | .lst xs => Q xs
  | .scr ns => Q (ns.map D.int)
  | _ => False
variable {e a b : Expr} {w wa wb wc : WE} {tg : Expr} {p : Pos}
theorem id_list (ha : ED X E a wa) (hK : X.K = KC.K := by rfl) : ID X E tg a (wSeq wa) := by
  obtain ⟨t, pt, s⟩ := ha.ex
  refine ⟨_, pi_list pt, fun x ρ Q hw F σ H S R rp ex k => ?_⟩
  refine s x ρ _ hw F σ H S _ rp ex fun d u H1 S1 q1 g1 h1 => ?_
  cases d with
  | lst xs =>
    unfold Dat at h1
    obtain ⟨a, vs, rfl, r, z⟩ := h1
    exact ⟨a, rfl, ⟨vs, .of (g1.sh _ _ r)⟩, k xs _ H1 S1 q1 g1 (it_list (fun H e => .of (e _ _ r)) z)⟩
  | scr ns =>
    unfold Dat at h1
    obtain ⟨a, rfl, r⟩ := h1
    exact ⟨a, rfl, ⟨_, by rw [hK]; exact g1.sh.seq r⟩, k _ _ H1 S1 q1 g1 (it_list (fun H e => by rw [hK]; exact e.seq r) (Dats.ints ns))⟩
  | _ => exact q1.elim
def wSeqT (wa : WE) : WL := fun x ρ Q => wa x ρ fun d => match d with
  | .tup xs => Q xs
  | _ => False
theorem id_tup (ha : ED X E a wa) : ID X E tg a (wSeqT wa) := by
  obtain ⟨t, pt, s⟩ := ha.ex
  refine ⟨_, pi_tup pt, fun x ρ Q hw F σ H S R rp ex k => ?_⟩
  refine s x ρ _ hw F σ H S _ rp ex fun d u H1 S1 q1 g1 h1 => ?_
  cases d with
  | tup xs =>
    unfold Dat at h1
    obtain ⟨a, vs, rfl, r, z⟩ := h1
    refine ⟨a, rfl, ⟨vs, .of (g1.sh _ _ r)⟩, k xs _ H1 S1 q1 g1 fun i H S e1 e2 => ?_⟩
    have hs : SqT X.K H a vs := .of (e2 _ _ (e1 _ _ r))
    refine ⟨fun d hd => ?_, fun hl => ⟨vs, hs, by rw [z.len]; exact hl⟩⟩
    obtain ⟨v, hv, hz⟩ := z.get hd
    refine ⟨⟨vs, v, hs, hv⟩, fun x H' y => ?_⟩
    obtain ⟨e, y⟩ := y
    subst e
    have := y vs hs
    rw [hv] at this
    cases this
    exact ⟨S, .refl e2, Dat.mono e1 _ _ hz⟩
  | _ => exact q1.elim
def signs (z : Str) : List D := z.cps.toList.map fun c => .str ⟨#[c]⟩
def wSigns (wa : WE) : WL := fun x ρ Q => wa x ρ fun d => match d with
  | .str z => Q (signs z)
  | _ => False
theorem id_str (ha : ED X E a wa) : ID X E tg a (wSigns wa) := by
  obtain ⟨t, pt, s⟩ := ha.ex
  refine ⟨_, pi_str pt, fun x ρ Q hw F σ H S R rp ex k => ?_⟩
  refine s x ρ _ hw F σ H S _ rp ex fun d u H1 S1 q1 g1 h1 => ?_
  cases d with
  | str z =>
    unfold Dat at h1
    refine ⟨z, h1, k _ _ H1 S1 q1 g1 fun i H S e1 e2 => ⟨fun d hd => ?_, fun hl => ?_⟩⟩
    · unfold signs at hd
      rw [List.getElem?_map] at hd
      cases q : z.cps.toList[i]? with
      | none => rw [q] at hd; cases hd
      | some c =>
        rw [q] at hd
        cases hd
        have hi : i < z.cps.size := by
          rcases Nat.lt_or_ge i z.cps.size with h | h
          · exact h
          · rw [List.getElem?_eq_none (by simpa using h)] at q; cases q
        refine ⟨hi, fun x H' y => ?_⟩
        obtain ⟨e, c', hc, y⟩ := y
        subst e
        subst y
        rw [← Array.getElem?_toList, q] at hc
        cases hc
        exact ⟨S, .refl e2, .s⟩
    · unfold signs at hl
      rw [List.length_map] at hl
      exact hl
  | _ => exact q1.elim
/-- lo, lo + c, .. so many -/
def rngD (lo c : Int) (n : Nat) : List D := (List.range n).map fun (i : Nat) => .int (lo + (i : Int) * c)
theorem it_rng {S0 : Hp} {lo : Int} {n : Nat} : ItOk (Itr lo n) S0 (rngD lo 1 n) := fun i H S e1 e2 => by
  refine ⟨fun d hd => ?_, fun hl => by unfold rngD at hl; rw [List.length_map, List.length_range] at hl; exact hl⟩
  unfold rngD at hd
  rw [List.getElem?_map] at hd
  cases q : (List.range n)[i]? with
  | none => rw [q] at hd; cases hd
  | some j =>
    rw [q] at hd
    cases hd
    obtain ⟨hi, hj⟩ := List.getElem?_eq_some_iff.mp q
    simp at hi hj
    subst hj
    refine ⟨hi, fun x H' y => ?_⟩
    obtain ⟨e, y⟩ := y
    subst e y
    exact ⟨S, .refl e2, by show Dat S (.int (lo + (i : Int) * 1)) _; rw [Int.mul_one]; exact .i⟩
theorem it_rngC {S0 : Hp} {lo c : Int} {n : Nat} : ItOk (Itc lo c n) S0 (rngD lo c n) := fun i H S e1 e2 => by
  refine ⟨fun d hd => ?_, fun hl => by unfold rngD at hl; rw [List.length_map, List.length_range] at hl; exact hl⟩
  unfold rngD at hd
  rw [List.getElem?_map] at hd
  cases q : (List.range n)[i]? with
  | none => rw [q] at hd; cases hd
  | some j =>
    rw [q] at hd
    cases hd
    obtain ⟨hi, hj⟩ := List.getElem?_eq_some_iff.mp q
    simp at hi hj
    subst hj
    refine ⟨hi, fun x H' y => ?_⟩
    obtain ⟨e, y⟩ := y
    subst e y
    exact ⟨S, .refl e2, .i⟩
def smallI (i : Int) : Prop := -(2 ^ 62) ≤ i ∧ i < 2 ^ 62
def wRng1 (wa : WE) : WL := fun x ρ Q => wa x ρ fun d => match d with
  | .int n => smallI n ∧ Q (rngD 0 1 n.toNat)
  | _ => False
theorem id_range1 (hg : Gl X "range") (hm : X.mg "range" = none) (ha : ED X E a wa) (hs : starEach [a] X.env = [(false, eval a X.env)] := by rfl) (he : starEach (a :: []) X.env = (false, eval a X.env) :: starEach [] X.env := by rfl) :
    ID X E tg (.Call (.Name "range" p) [a] [] pos) (wRng1 wa) := by
  obtain ⟨t, pt, s⟩ := (ad_cons ha ad_nil he).ex
  refine ⟨_, pi_range1 hg hm pt hs, fun x ρ Q hw F σ H S R rp ex k => ?_⟩
  refine s x ρ (fun ds => match ds with
    | [d] => match d with
      | .int n => smallI n ∧ Q (rngD 0 1 n.toNat)
      | _ => False
    | _ => False) ?_ F σ H S _ rp ex fun ds vs H1 S1 q1 g1 h1 => ?_
  · exact hw
  · split at q1
    · split at q1
      · unfold Dats Dats Dat at h1
        obtain ⟨_, _, rfl, rfl, rfl⟩ := h1
        exact ⟨_, rfl, q1.1.1, q1.1.2, k _ _ H1 S1 q1.2 g1 it_rng⟩
      · exact q1.elim
    · exact q1.elim
def wRng2 (wa wb : WE) : WL := fun x ρ Q => wa x ρ fun d => wb x ρ fun e => match d, e with
  | .int i, .int j => smallI i ∧ smallI j ∧ Q (rngD i 1 (j - i).toNat)
  | _, _ => False
theorem id_range2 (hg : Gl X "range") (hm : X.mg "range" = none) (ha : ED X E a wa) (hb : ED X E b wb) (hs : starEach [a, b] X.env = [(false, eval a X.env), (false, eval b X.env)] := by rfl) (hs2 : starEach [b] X.env = [(false, eval b X.env)] := by rfl)
    (he : starEach (a :: [b]) X.env = (false, eval a X.env) :: starEach [b] X.env := by rfl) (he2 : starEach (b :: []) X.env = (false, eval b X.env) :: starEach [] X.env := by rfl) :
    ID X E tg (.Call (.Name "range" p) [a, b] [] pos) (wRng2 wa wb) := by
  obtain ⟨t, pt, s⟩ := (ad_cons ha (ad_cons hb ad_nil he2) he).ex
  refine ⟨_, pi_range2 hg hm pt hs hs2, fun x ρ Q hw F σ H S R rp ex k => ?_⟩
  refine s x ρ (fun ds => match ds with
    | [d, e] => match d, e with
      | .int i, .int j => smallI i ∧ smallI j ∧ Q (rngD i 1 (j - i).toNat)
      | _, _ => False
    | _ => False) ?_ F σ H S _ rp ex fun ds vs H1 S1 q1 g1 h1 => ?_
  · exact hw
  · split at q1
    · split at q1
      · unfold Dats Dats Dats Dat at h1
        obtain ⟨_, _, rfl, rfl, _, _, rfl, rfl, rfl⟩ := h1
        exact ⟨_, _, rfl, ⟨q1.1.1, q1.1.2, q1.2.1.1, q1.2.1.2⟩, k _ _ H1 S1 q1.2.2 g1 it_rng⟩
      · exact q1.elim
    · exact q1.elim
def wRng3 (wa wb wc : WE) : WL := fun x ρ Q => wa x ρ fun d => wb x ρ fun e => wc x ρ fun f => match d, e, f with
  | .int i, .int j, .int l => ∃ n, RgC i j l n ∧ Q (rngD i l n)
  | _, _, _ => False
theorem id_range3 {c : Expr} (hg : Gl X "range") (hm : X.mg "range" = none) (ha : ED X E a wa) (hb : ED X E b wb) (hc : ED X E c wc) (hs : starEach [a, b, c] X.env = (false, eval a X.env) :: starEach [b, c] X.env := by rfl) (hpl : (backTo pos (starEach [b, c] X.env)).any (·.1) = false := by rfl)
    (he : starEach (a :: [b, c]) X.env = (false, eval a X.env) :: starEach [b, c] X.env := by rfl) (he2 : starEach (b :: [c]) X.env = (false, eval b X.env) :: starEach [c] X.env := by rfl) (he3 : starEach (c :: []) X.env = (false, eval c X.env) :: starEach [] X.env := by rfl) :
    ID X E tg (.Call (.Name "range" p) [a, b, c] [] pos) (wRng3 wa wb wc) := by
  obtain ⟨t, pt, s⟩ := (ad_cons ha (ad_cons hb (ad_cons hc ad_nil he3) he2) he).ex
  refine ⟨_, pi_range3 hg hm pt hs hpl, fun x ρ Q hw F σ H S R rp ex k => ?_⟩
  refine s x ρ (fun ds => match ds with
    | [d, e, f] => match d, e, f with
      | .int i, .int j, .int l => ∃ n, RgC i j l n ∧ Q (rngD i l n)
      | _, _, _ => False
    | _ => False) ?_ F σ H S _ rp ex fun ds vs H1 S1 q1 g1 h1 => ?_
  · exact hw
  · split at q1
    · split at q1
      · unfold Dats Dats Dats Dats Dat at h1
        obtain ⟨_, _, rfl, rfl, _, _, rfl, rfl, _, _, rfl, rfl, rfl⟩ := h1
        obtain ⟨n, q2, q3⟩ := q1
        exact ⟨_, _, _, n, rfl, q2, k _ _ H1 S1 q3 g1 it_rngC⟩
      · exact q1.elim
    · exact q1.elim
def wRev (wa : WE) : WL := fun x ρ Q => wa x ρ fun d => match d with
  | .lst xs => Q xs.reverse
  | _ => False
theorem id_rev (hg : Gl X "reversed") (hm : X.mg "reversed" = none) (ha : ED X E a wa) (hs : starEach [a] X.env = [(false, eval a X.env)] := by rfl) (he : starEach (a :: []) X.env = (false, eval a X.env) :: starEach [] X.env := by rfl) :
    ID X E tg (.Call (.Name "reversed" p) [a] [] pos) (wRev wa) := by
  obtain ⟨t, pt, s⟩ := (ad_cons ha ad_nil he).ex
  refine ⟨_, pi_reversed hg hm pt hs, fun x ρ Q hw F σ H S R rp ex k => ?_⟩
  refine s x ρ (fun ds => match ds with
    | [d] => match d with
      | .lst xs => Q xs.reverse
      | _ => False
    | _ => False) ?_ F σ H S _ rp ex fun ds vs H1 S1 q1 g1 h1 => ?_
  · exact hw
  · split at q1
    · split at q1
      · rename_i xs
        unfold Dats Dats Dat at h1
        obtain ⟨_, _, rfl, ⟨a, vs, rfl, r, z⟩, rfl⟩ := h1
        refine ⟨a, vs, rfl, .of (g1.sh _ _ r), k _ _ H1 S1 q1 g1 fun i H S e1 e2 => ?_⟩
        have hs : SqL X.K H a vs := .of (e2 _ _ (e1 _ _ r))
        have zl := z.len
        refine ⟨fun d hd => ?_, fun hl => by rw [List.length_reverse] at hl; show vs.length ≤ i; omega⟩
        have hi : i < xs.length := by
          rcases Nat.lt_or_ge i xs.length with h | h
          · exact h
          · rw [List.getElem?_eq_none (by simpa using h)] at hd; cases hd
        rw [List.getElem?_reverse hi] at hd
        obtain ⟨v, hv, hz⟩ := z.get hd
        rw [← zl] at hv
        refine ⟨⟨by rw [zl]; exact hi, vs, v, hs, hv⟩, fun x H' y => ?_⟩
        obtain ⟨e, y⟩ := y
        subst e
        have := y vs hs
        rw [hv] at this
        cases this
        exact ⟨S, .refl e2, Dat.mono e1 _ _ hz⟩
      · exact q1.elim
    · exact q1.elim
def pairs (xs ys : List D) : List D := (xs.zip ys).map fun p => .tup [p.1, p.2]
def numbered (xs : List D) : List D := (List.range xs.length).zip xs |>.map fun p => .tup [.int (p.1 : Nat), p.2]
def wEnum (wa : WE) : WL := fun x ρ Q => wa x ρ fun d => match d with
  | .lst xs => Q (numbered xs)
  | _ => False
theorem id_enum {elts : List Expr} {kk : Nat} {tpos : Pos} (hg : Gl X "enumerate") (hm : X.mg "enumerate" = none) (ha : ED X E a wa) (hs : starEach [a] X.env = [(false, eval a X.env)] := by rfl) (he : starEach (a :: []) X.env = (false, eval a X.env) :: starEach [] X.env := by rfl) :
    ID X E (.Tuple elts kk tpos) (.Call (.Name "enumerate" p) [a] [] pos) (wEnum wa) := by
  obtain ⟨t, pt, s⟩ := (ad_cons ha ad_nil he).ex
  refine ⟨_, pi_enum hg hm pt hs, fun x ρ Q hw F σ H S R rp ex k => ?_⟩
  refine s x ρ (fun ds => match ds with
    | [d] => match d with
      | .lst xs => Q (numbered xs)
      | _ => False
    | _ => False) ?_ F σ H S _ rp ex fun ds vs H1 S1 q1 g1 h1 => ?_
  · exact hw
  · split at q1
    · split at q1
      · rename_i xs
        unfold Dats Dats Dat at h1
        obtain ⟨_, _, rfl, ⟨a, vs, rfl, r, z⟩, rfl⟩ := h1
        refine ⟨a, vs, rfl, .of (g1.sh _ _ r), k _ _ H1 S1 q1 g1 fun i H S e1 e2 => ?_⟩
        have hs : SqL X.K H a vs := .of (e2 _ _ (e1 _ _ r))
        have zl := z.len
        refine ⟨fun d hd => ?_, fun hl => ⟨vs, hs, by unfold numbered at hl; simp at hl; omega⟩⟩
        unfold numbered at hd
        rw [List.getElem?_map] at hd
        cases q : ((List.range xs.length).zip xs)[i]? with
        | none => rw [q] at hd; cases hd
        | some pr =>
          rw [q] at hd
          cases hd
          obtain ⟨pn, pd⟩ := pr
          obtain ⟨q2, q3⟩ := List.getElem?_zip_eq_some.mp q
          obtain ⟨hi, hj⟩ := List.getElem?_eq_some_iff.mp q2
          simp at hi hj
          subst hj
          obtain ⟨v, hv, hz⟩ := z.get q3
          refine ⟨⟨vs, v, hs, hv⟩, fun x H' y => ?_⟩
          obtain ⟨T, y1, rfl, hT, rfl, y⟩ := y
          have := y vs hs
          rw [hv] at this
          cases this
          obtain ⟨g, dd⟩ := lay_tup e2 hT (.cons (.i (i := (i : Nat))) (.one (Dat.mono e1 _ _ hz)))
          exact ⟨_, g, dd⟩
      · exact q1.elim
    · exact q1.elim
def wZip (wa wb : WE) : WL := fun x ρ Q => wa x ρ fun d => wb x ρ fun e => match d, e with
  | .lst xs, .lst ys => Q (pairs xs ys)
  | _, _ => False
theorem id_zip {elts : List Expr} {kk : Nat} {tpos : Pos} (hg : Gl X "zip") (hm : X.mg "zip" = none) (ha : ED X E a wa) (hb : ED X E b wb)
    (hs : starEach [a, b] X.env = (false, eval a X.env) :: starEach [b] X.env := by rfl) (hpl : (backTo pos (starEach [b] X.env)).any (·.1) = false := by rfl) (he2 : starEach (b :: []) X.env = (false, eval b X.env) :: starEach [] X.env := by rfl) :
    ID X E (.Tuple elts kk tpos) (.Call (.Name "zip" p) [a, b] [] pos) (wZip wa wb) := by
  obtain ⟨t, pt, s⟩ := (ad_cons ha (ad_cons hb ad_nil he2) hs).ex
  refine ⟨_, pi_zip hg hm pt hs hpl, fun x ρ Q hw F σ H S R rp ex k => ?_⟩
  refine s x ρ (fun ds => match ds with
    | [d, e] => match d, e with
      | .lst xs, .lst ys => Q (pairs xs ys)
      | _, _ => False
    | _ => False) ?_ F σ H S _ rp ex fun ds vs H1 S1 q1 g1 h1 => ?_
  · exact hw
  · split at q1
    · split at q1
      · rename_i xs ys
        unfold Dats Dats Dats Dat at h1
        obtain ⟨_, _, rfl, ⟨a, vs, rfl, r, z⟩, _, _, rfl, ⟨b, us, rfl, r', z'⟩, rfl⟩ := h1
        refine ⟨a, b, vs, us, rfl, .of (g1.sh _ _ r), .of (g1.sh _ _ r'), k _ _ H1 S1 q1 g1 fun i H S e1 e2 => ?_⟩
        have hs : SqL X.K H a vs := .of (e2 _ _ (e1 _ _ r))
        have hs' : SqL X.K H b us := .of (e2 _ _ (e1 _ _ r'))
        have zl := z.len
        have zl' := z'.len
        refine ⟨fun d hd => ?_, fun hl => ⟨vs, us, hs, hs', by unfold pairs at hl; simp at hl; omega⟩⟩
        unfold pairs at hd
        rw [List.getElem?_map] at hd
        cases q : (xs.zip ys)[i]? with
        | none => rw [q] at hd; cases hd
        | some pr =>
          rw [q] at hd
          cases hd
          obtain ⟨q1, q2⟩ := List.getElem?_zip_eq_some.mp q
          obtain ⟨v, hv, hz⟩ := z.get q1
          obtain ⟨u, hu, hz'⟩ := z'.get q2
          refine ⟨⟨vs, us, v, u, hs, hs', hv, hu⟩, fun x H' y => ?_⟩
          obtain ⟨T, y1, y2, rfl, hT, rfl, y, y'⟩ := y
          have e3 := y vs hs
          rw [hv] at e3
          cases e3
          have e4 := y' us hs'
          rw [hu] at e4
          cases e4
          obtain ⟨g, dd⟩ := lay_tup e2 hT (.cons (Dat.mono e1 _ _ hz) (.one (Dat.mono e1 _ _ hz')))
          exact ⟨_, g, dd⟩
      · exact q1.elim
    · exact q1.elim

/-! ### list comprehensions -/
abbrev X0 : XS := fun _ => False
def compL (g : WG) (wt : WT) (we : WE) (ρ : Ev) (Q : List D → Prop) : List D → List D → Prop
  | [], acc => Q acc
  | d :: ds, acc => g d ρ fun ρ2 => wt X0 ρ2 fun b => Br b (we X0 ρ2 fun y => acc.length < sizeLine ∧ compL g wt we ρ Q ds (acc ++ [y])) (compL g wt we ρ Q ds acc) ⟨⟩ ⟨⟩
def wLc (wi : WL) (g : WG) (wt : WT) (we : WE) (vs : List Nat) : WL := fun x ρ Q => wi x ρ fun ds => compL g wt we (wipeE ρ vs) Q ds []
theorem exOk0 {mg : Str → Option Value} {H S : Hp} : ExOk mg E0 X0 H S := fun _ _ _ _ h => h.elim
/-- the loop, for whatever its tests are -/
theorem lc_sound {mg : Str → Option Value} {J : It} {g : WG} {is : List Nat} {wt : WT} {tt : TT} {we : WE} {vs : List Nat} {F : Fr} {ρ : Ev} {σ : L2.St} {H0 S0 H1 S1 : Hp} {ds : List D} {Q : List D → Prop} {Q' : VK} {D0 : Addr}
    (his : ∀ i ∈ is, i ∈ vs) (rp : Rep F ρ σ H0 S0) (g1 : Grow H0 S0 H1 S1) (hJ : ItOk J S1 ds) (hD : H1 D0 = none) (hw : compL g wt we (wipeE ρ vs) Q ds [])
    (ht : ∀ (ρ2 : Ev) (σ2 : L2.St) (H S : Hp) (R : Bool → Prop) (R' : Bool → Hp → Prop), wt X0 ρ2 R → Rep F ρ2 σ2 H S → (∀ b H' S', R b → Grow H S H' S' → R' b H') → tt σ2 H R')
    (k : ∀ xs ws H' S', Q xs → Grow H0 S0 H' S' → H0 D0 = none → S' D0 = none → H' D0 = some (.lst ws) → Dats S' xs ws → Q' (.ref D0) H') :
    ∃ W : Nat → Nat → Hp → Prop, (∃ m, W 0 m (upd H1 D0 (.lst []))) ∧ ∀ i m H, W i m H →
      (J.stop i H ∧ Q' (.ref D0) H) ∨ (J.go i H ∧ ∃ Nx : Hp → Prop, (∀ H', Nx H' → ∃ m', m' < m ∧ W (i + 1) m' H') ∧ ∀ x H', J.yld i H x H' → canG g is x (wipe σ vs) H' fun σ2 H2 => wipe σ2 vs = wipe σ vs ∧ tt σ2 H2 fun b H3 =>
        if b = true then canE mg E0 we σ2 H3 fun y H4 => ∃ acc, H4 D0 = some (.lst acc) ∧ acc.length < sizeLine ∧ Nx (upd H4 D0 (.lst (acc ++ [y]))) else Nx H3) := by
  have hD0 : H0 D0 = none := g1.freeH hD
  let W : Nat → Nat → Hp → Prop := fun i m H => m = ds.length - i ∧ i ≤ ds.length ∧ ∃ S acc ws, Grow H0 S0 H S ∧ Same S1 S ∧ H D0 = some (.lst ws) ∧ S D0 = none ∧ Dats S acc ws ∧ compL g wt we (wipeE ρ vs) Q (ds.drop i) acc
  refine ⟨W, ⟨ds.length, by simp, Nat.zero_le _, S1, [], [], g1.lay hD, .refl _, upd_same, g1.freeS hD, .nil, hw⟩, ?_⟩
  rintro i m H ⟨rfl, hi, S, acc, ws, gg, ss, hH, hS, hd, hc⟩
  rcases Nat.lt_or_ge i ds.length with hlt | hge
  · obtain ⟨d, hdi⟩ : ∃ d, ds[i]? = some d := ⟨_, List.getElem?_eq_getElem hlt⟩
    obtain ⟨go, yl⟩ := (hJ i H S ss gg.sh).1 d hdi
    have hdrop : ds.drop i = d :: ds.drop (i + 1) := by
      rw [List.drop_eq_getElem_cons hlt]
      congr 1
      rw [List.getElem?_eq_getElem hlt] at hdi
      exact Option.some.inj hdi
    rw [hdrop] at hc
    refine .inr ⟨go, fun H' => W (i + 1) (ds.length - (i + 1)) H', fun H' h => ⟨_, by omega, h⟩, fun x H' y => ?_⟩
    obtain ⟨S', g', dx⟩ := yl x H' y
    refine ⟨d, wipeE ρ vs, _, F, S', hc, ((rp.grow gg).grow g').wipe vs, dx, fun ρ2 σ2 h2 r2 w2 => ⟨by rw [w2 vs his, wipe_wipe], ?_⟩⟩
    refine ht ρ2 σ2 H' S' _ _ h2 r2 fun b H3 S3 h3 g3 => ?_
    have g03 : Grow H0 S0 H3 S3 := (gg.trans g').trans g3
    have sD : S' D0 = none := by rw [g'.nw D0 (by rw [hH]; intro z; cases z)]; exact hS
    have hD' : H' D0 = some (.lst ws) := g'.hh.lst hH
    have sD3 : S3 D0 = none := by rw [g3.nw D0 (by rw [hD']; intro z; cases z)]; exact sD
    have hD3 : H3 D0 = some (.lst ws) := g3.hh.lst hD'
    cases b with
    | false => exact iteF ⟨rfl, hlt, S3, acc, ws, g03, (ss.trans g'.ss).trans g3.ss, hD3, sD3, Dats.mono g3.ss _ _ (Dats.mono g'.ss _ _ hd), h3⟩
    | true =>
      refine iteT ⟨X0, ρ2, _, F, S3, h3, r2.grow g3, exOk0, fun y v H4 S4 h4 g4 d4 => ?_⟩
      have sD4 : S4 D0 = none := by rw [g4.nw D0 (by rw [hD3]; intro z; cases z)]; exact sD3
      have hD4 : H4 D0 = some (.lst ws) := g4.hh.lst hD3
      have hd4 : Dats S4 acc ws := Dats.mono g4.ss _ _ (Dats.mono g3.ss _ _ (Dats.mono g'.ss _ _ hd))
      have g04 : Grow H0 S0 H4 S4 := g03.trans g4
      refine ⟨ws, hD4, by rw [hd4.len]; exact h4.1, rfl, hlt, S4, acc ++ [y], ws ++ [v], ⟨g04.hh.over hD0 hD4 (fun _ z => by cases z) (fun _ z => by cases z), g04.ss, fun b o e => ?_, g04.nw⟩, ((ss.trans g'.ss).trans g3.ss).trans g4.ss, upd_same, sD4, hd4.app (.one d4), h4.2⟩
      · rw [upd_ne (ne_of_none e sD4)]
        exact g04.sh b o e
  · have e : i = ds.length := by omega
    subst e
    rw [List.drop_length] at hc
    exact .inl ⟨(hJ _ H S ss gg.sh).2 (Nat.le_refl _), k acc ws H S hc gg hD0 hS hH hd⟩
variable {elt iter : Expr} {scope : Scope} {own : List (Str × Nat)} {vs : List Nat} {wi : WL} {g : WG} {is : List Nat} {we : WE} {wt : WT} {c : Expr}
def wtYes : WT := fun _ _ Q => Q true
theorem df_lc (hc : X.calm = true) (hN : X.N.Nodup) (hi : ID X E tg iter wi) (ok : BlkOk X.N X.env.scope scope own)
    (hg : ∀ (s : Shared) (H : Hp) (C : Addr) (cl : List (Str × Addr)) (fp : List Addr), GD (X.blk s H scope (compEnvC scope cl C X.env) fp) tg is g)
    (he : ∀ (s : Shared) (H : Hp) (C : Addr) (cl : List (Str × Addr)) (fp : List Addr), ED (X.blk s H scope (compEnvC scope cl C X.env) fp) E0 elt we)
    (hvs : own.map (·.2) = vs := by rfl) (his : ∀ i ∈ is, i ∈ vs := by decide) (hs : ∀ x, foldedSetIterable iter X.env x = pure x := by intro _; rfl) :
    DF X E (.ListComp elt [⟨tg, iter, [], 0⟩] scope pos) (wLc wi g wtYes we vs) := by
  subst hvs
  obtain ⟨ti, pti, s⟩ := hi.ex
  refine ⟨_, pe_lc (g := canG g is) (tt := tYes) (te := canE X.mg E0 we) hc hN pti ok (fun s H C cl fp => (hg s H C cl fp).can) (fun _ _ _ _ _ => pts_nil) (fun s H C cl fp => (he s H C cl fp).can) hs, fun x ρ Q hw F σ H S Q' rp ex k => ?_⟩
  refine s x ρ _ hw F σ H S _ rp ex fun ds J H1 S1 q1 g1 hJ D0 hD => ?_
  exact lc_sound his rp g1 hJ hD q1 (fun ρ2 σ2 H S R R' h r k => k true H S h (.refl r.sh)) fun xs ws H' S' q g h0 h1 h2 hd => k xs D0 ws H' S' q g h0 h1 h2 hd
theorem df_lcIf (hc : X.calm = true) (hN : X.N.Nodup) (hi : ID X E tg iter wi) (ok : BlkOk X.N X.env.scope scope own)
    (hg : ∀ (s : Shared) (H : Hp) (C : Addr) (cl : List (Str × Addr)) (fp : List Addr), GD (X.blk s H scope (compEnvC scope cl C X.env) fp) tg is g)
    (ht : ∀ (s : Shared) (H : Hp) (C : Addr) (cl : List (Str × Addr)) (fp : List Addr), TD (X.blk s H scope (compEnvC scope cl C X.env) fp) E0 c wt)
    (he : ∀ (s : Shared) (H : Hp) (C : Addr) (cl : List (Str × Addr)) (fp : List Addr), ED (X.blk s H scope (compEnvC scope cl C X.env) fp) E0 elt we)
    (hvs : own.map (·.2) = vs := by rfl) (his : ∀ i ∈ is, i ∈ vs := by decide) (hs : ∀ x, foldedSetIterable iter X.env x = pure x := by intro _; rfl) :
    DF X E (.ListComp elt [⟨tg, iter, [c], 0⟩] scope pos) (wLc wi g wt we vs) := by
  subst hvs
  obtain ⟨ti, pti, s⟩ := hi.ex
  refine ⟨_, pe_lc (g := canG g is) (tt := canT X.mg E0 wt) (te := canE X.mg E0 we) hc hN pti ok (fun s H C cl fp => (hg s H C cl fp).can) (fun s H C cl fp => pts_one (ht s H C cl fp).can) (fun s H C cl fp => (he s H C cl fp).can) hs, fun x ρ Q hw F σ H S Q' rp ex k => ?_⟩
  refine s x ρ _ hw F σ H S _ rp ex fun ds J H1 S1 q1 g1 hJ D0 hD => ?_
  exact lc_sound his rp g1 hJ hD q1 (fun ρ2 σ2 H S R R' h r k => ⟨X0, ρ2, R, F, S, h, r, exOk0, k⟩) fun xs ws H' S' q g h0 h1 h2 hd => k xs D0 ws H' S' q g h0 h1 h2 hd
end
end NL

namespace NL
open PySem PySem.Spec L2
open PyProof.Rows hiding St
variable [KC]

structure DEnds where
  nx : Ev → Prop
  rt : Rt → Ev → Prop
  bk : Ev → Prop := fun _ => False
  ct : Ev → Prop := fun _ => False
  ex : XS
abbrev WS := DEnds → Ev → Prop
structure EndsOk (mg : Str → Option Value) (E : XK) (F : Fr) (q : DEnds) (D : Ends) : Prop where
  nx : ∀ ρ σ H S, q.nx ρ → Rep F ρ σ H S → D.nx σ H
  rt : ∀ r ρ v σ H S, q.rt r ρ → Rep F ρ σ H S → RtP F.H0 H S r v → D.rt v H
  bk : ∀ ρ σ H S, q.bk ρ → Rep F ρ σ H S → D.bk σ H
  ct : ∀ ρ σ H S, q.ct ρ → Rep F ρ σ H S → D.ct σ H
  ex : ∀ n C H S, q.ex n → mg n = some (.ref C) → FGrow F H S → E (.ref C) none H
theorem EndsOk.exOk {mg : Str → Option Value} {E : XK} {F : Fr} {q : DEnds} {D : Ends} {ρ : Ev} {σ : L2.St} {H S : Hp} (o : EndsOk mg E F q D) (r : Rep F ρ σ H S) : ExOk mg E q.ex H S :=
  fun n C H' S' h1 h2 g => o.ex n C H' S' h1 h2 (r.fg.grow g)
structure SD (X : Cx) (E : XK) (st : Stmt) (w : WS) : Prop where
  ex : ∃ t, PS X st t ∧ ∀ (q : DEnds) (ρ : Ev), w q ρ → ∀ (F : Fr) (σ : L2.St) (H S : Hp) (D : Ends), Rep F ρ σ H S → EndsOk X.mg E F q D → t D σ H
structure SDs (X : Cx) (E : XK) (st : List Stmt) (w : WS) : Prop where
  ex : ∃ t, PSs X st t ∧ ∀ (q : DEnds) (ρ : Ev), w q ρ → ∀ (F : Fr) (σ : L2.St) (H S : Hp) (D : Ends), Rep F ρ σ H S → EndsOk X.mg E F q D → t D σ H

section
variable {X : Cx} {E : XK} {st : Stmt} {sts : List Stmt} {e a b : Expr} {pos : Pos} {w wa wb we : WE} {wt : WT} {ws wu : WS} {wl : WL}
def wsNil  : WS := fun q ρ => q.nx ρ
theorem sds_nil : SDs X E [] wsNil := ⟨_, pss_nil, fun q ρ hw F σ H S D rp o => o.nx ρ σ H S hw rp⟩
def wSeqS (w1 w2 : WS) : WS := fun q ρ => w1 { q with nx := w2 q } ρ
theorem sds_cons (h1 : SD X E st ws) (h2 : SDs X E sts wu) : SDs X E (st :: sts) (wSeqS ws wu) := by
  obtain ⟨t, p, s⟩ := h1.ex
  obtain ⟨t', p', s'⟩ := h2.ex
  refine ⟨_, pss_cons p p', fun q ρ hw F σ H S D rp o => ?_⟩
  exact s _ ρ hw F σ H S _ rp ⟨fun ρ1 σ1 H1 S1 q1 r1 => s' q ρ1 q1 F σ1 H1 S1 D r1 o, o.rt, o.bk, o.ct, o.ex⟩
theorem sds_one (h1 : SD X E st ws) : SDs X E [st] ws := by
  obtain ⟨t, p, s⟩ := h1.ex
  exact ⟨_, pss_one p, s⟩
/-- from here on the slot's own thing is shared -/
def wFrz (i : Nat) (w : WS) : WS := fun q ρ => match ρ[i]? with
  | some (.own false c) => w q (ρ.set i (.fz c.d))
  | some (.fz _) => w q ρ
  | _ => False
theorem sds_frz (i : Nat) (h : SDs X E sts ws) : SDs X E sts (wFrz i ws) := by
  obtain ⟨t, p, s⟩ := h.ex
  refine ⟨t, p, fun q ρ hw F σ H S D rp o => ?_⟩
  unfold wFrz at hw
  split at hw
  · rename_i c hi
    obtain ⟨S', r'⟩ := rp.frz hi
    exact s q _ hw F σ H S' D r' o
  · exact s q ρ hw F σ H S D rp o
  · exact hw.elim
theorem sd_pass : SD X E (.Pass pos) wsNil := ⟨_, ps_pass, fun q ρ hw F σ H S D rp o => o.nx ρ σ H S hw rp⟩
def wsBrk  : WS := fun q ρ => q.bk ρ
theorem sd_break : SD X E (.Break pos) wsBrk := ⟨_, ps_break, fun q ρ hw F σ H S D rp o => o.bk ρ σ H S hw rp⟩
def wsCnt  : WS := fun q ρ => q.ct ρ
theorem sd_continue : SD X E (.Continue pos) wsCnt := ⟨_, ps_continue, fun q ρ hw F σ H S D rp o => o.ct ρ σ H S hw rp⟩
def wsExpr (w : WE) : WS := fun q ρ => w q.ex ρ fun _ => q.nx ρ
theorem sd_expr (he : ED X E e w) (hs : swapsWith e none pos.line X.env = pure false := by rfl) : SD X E (.Expr e pos) (wsExpr w) := by
  obtain ⟨t, p, s⟩ := he.ex
  refine ⟨_, ps_expr p hs, fun q ρ hw F σ H S D rp o => ?_⟩
  exact s q.ex ρ _ hw F σ H S _ rp (o.exOk rp) fun d v H1 S1 q1 g1 h1 => o.nx ρ σ H1 S1 q1 (rp.grow g1)
def wsRet (w : WE) : WS := fun q ρ => w q.ex ρ fun d => q.rt (.val d) ρ
theorem sd_ret (he : ED X E e w) : SD X E (.Return (some e) pos) (wsRet w) := by
  obtain ⟨t, p, s⟩ := he.ex
  refine ⟨_, ps_ret p, fun q ρ hw F σ H S D rp o => ?_⟩
  exact s q.ex ρ _ hw F σ H S _ rp (o.exOk rp) fun d v H1 S1 q1 g1 h1 => o.rt _ ρ v σ H1 S1 q1 (rp.grow g1) h1
theorem fg_free {F : Fr} {H S : Hp} (f : FGrow F H S) {p : Addr} (h : H p = none) : F.H0 p = none := by
  cases q : F.H0 p with
  | none => rfl
  | some o => exact absurd h (f.al p (by rw [q]; intro z; cases z))
def wsRetF (wl : WL) : WS := fun q ρ => wl q.ex ρ fun xs => q.rt (.new (.lst xs)) ρ
theorem sd_retF (he : DF X E e wl) : SD X E (.Return (some e) pos) (wsRetF wl) := by
  obtain ⟨t, p, s⟩ := he.ex
  refine ⟨_, ps_ret p, fun q ρ hw F σ H S D rp o => ?_⟩
  exact s q.ex ρ _ hw F σ H S _ rp (o.exOk rp) fun xs p vs H1 S1 q1 g1 h0 h1 h2 hd => o.rt _ ρ _ σ H1 S1 q1 (rp.grow g1) ⟨p, _, rfl, fg_free rp.fg h0, h1, h2, vs, rfl, hd⟩
def wsRetOwn (i : Nat) : WS := fun q ρ => match ρ[i]? with
  | some (.own false c) => q.rt (.new c) ρ
  | _ => False
theorem sd_retOwn (i : Nat) {x : Str} {p : Pos} (hN : X.N[i]? = some x := by rfl) (hv : Vis X.env.scope x := by first | exact Or.inl rfl | exact Or.inr (Or.inl rfl) | exact Or.inr (Or.inr rfl)) (hd : (x == ("__debug__" : Str)) = false := by decide)
    (hcd : (x == ("__classdict__" : Str)) = false := by decide) : SD X E (.Return (some (.Name x p)) pos) (wsRetOwn i) := by
  refine ⟨_, ps_ret (pe_var hN hv hd hcd), fun q ρ hw F σ H S D rp o => ?_⟩
  unfold wsRetOwn at hw
  split at hw
  · rename_i c hi
    obtain ⟨p, u, e, h1, h2, h3, _, h4⟩ := rp.own hi
    exact ⟨.ref p, e, o.rt _ ρ _ σ H S hw rp ⟨p, u, rfl, h4 rfl, h1, h2, h3⟩⟩
  · exact hw.elim
def wsRetN  : WS := fun q ρ => q.rt (.val .non) ρ
theorem sd_retN : SD X E (.Return none pos) wsRetN := ⟨_, ps_retN, fun q ρ hw F σ H S D rp o => o.rt _ ρ V.non σ H S hw rp (show Dat S .non .non from .n)⟩
def wIfS (wt : WT) (ws wu : WS) : WS := fun q ρ => wt q.ex ρ fun b => Br b (ws q ρ) (wu q ρ) ⟨⟩ ⟨⟩
theorem sd_if {c : Expr} {p1 p2 : List Stmt} (hc : TD X E c wt) (ha : SDs X E p1 ws) (hb : SDs X E p2 wu) : SD X E (.If c p1 p2 pos) (wIfS wt ws wu) := by
  obtain ⟨t, p, s⟩ := hc.ex
  obtain ⟨ta, pa, sa⟩ := ha.ex
  obtain ⟨tb, pb, sb⟩ := hb.ex
  refine ⟨_, ps_if p pa pb, fun q ρ hw F σ H S D rp o => ?_⟩
  refine s q.ex ρ _ hw F σ H S _ rp (o.exOk rp) fun b H1 S1 q1 g1 => ?_
  cases b with
  | true => exact iteT (sa q ρ q1 F σ H1 S1 D (rp.grow g1) o)
  | false => exact iteF (sb q ρ q1 F σ H1 S1 D (rp.grow g1) o)

/-! ### stores -/
def locX (X : Cx) (x : Str) : Prop := Loc X.env.scope x ∧ (X.fn x = true ∨ X.env.scope.names.lookup x = some .local)
def wsSet (i : Nat) (w : WE) : WS := fun q ρ => w q.ex ρ fun d => q.nx (ρ.set i (.fz d))
theorem sd_set (i : Nat) {x : Str} {p : Pos} (hN : X.N.Nodup) (he : ED X E e w) (hi : X.N[i]? = some x := by rfl) (hx : Loc X.env.scope x := by first | exact Or.inl rfl | exact Or.inr rfl) (hs : swapsWith e (some (.Name x p)) pos.line X.env = pure false := by rfl)
    (hf : X.fn x = true ∨ X.env.scope.names.lookup x = some .local := by first | exact .inl rfl | exact .inr rfl) : SD X E (.Assign [.Name x p] e pos) (wsSet i w) := by
  obtain ⟨t, pe, s⟩ := he.ex
  refine ⟨_, ps_set hN hi hx pe hs hf, fun q ρ hw F σ H S D rp o => ?_⟩
  exact s q.ex ρ _ hw F σ H S _ rp (o.exOk rp) fun d v H1 S1 q1 g1 h1 => o.nx _ _ H1 S1 q1 ((rp.grow g1).set h1)
theorem own_ne {F : Fr} {ρ : Ev} {σ : L2.St} {H S : Hp} (rp : Rep F ρ σ H S) {p : Addr} (h0 : H p = none) (j : Nat) (m : Bool) (c : Cn) (h : ρ[j]? = some (.own m c)) : σ[j]? ≠ some (some (.ref p)) := fun z => by
  obtain ⟨p', o, e, _, h2, _⟩ := rp.own h
  rw [e] at z
  cases z
  rw [h0] at h2
  cases h2
def wsSetF (i : Nat) (wl : WL) : WS := fun q ρ => wl q.ex ρ fun xs => q.nx (ρ.set i (.own false (.lst xs)))
theorem sd_setF (i : Nat) {x : Str} {p : Pos} (hN : X.N.Nodup) (he : DF X E e wl) (hi : X.N[i]? = some x := by rfl) (hx : Loc X.env.scope x := by first | exact Or.inl rfl | exact Or.inr rfl) (hs : swapsWith e (some (.Name x p)) pos.line X.env = pure false := by rfl)
    (hf : X.fn x = true ∨ X.env.scope.names.lookup x = some .local := by first | exact .inl rfl | exact .inr rfl) : SD X E (.Assign [.Name x p] e pos) (wsSetF i wl) := by
  obtain ⟨t, pe, s⟩ := he.ex
  refine ⟨_, ps_set hN hi hx pe hs hf, fun q ρ hw F σ H S D rp o => ?_⟩
  exact s q.ex ρ _ hw F σ H S _ rp (o.exOk rp) fun xs p vs H1 S1 q1 g1 h0 h1 h2 hd => o.nx _ _ H1 S1 q1 ((rp.grow g1).setOwn h1 h2 ⟨vs, rfl, hd⟩ (fg_free rp.fg h0) (own_ne rp h0))
/-- name = [.. for ..] -/
theorem sd_setLc (i : Nat) {y : Str} {py spos : Pos} {elt tg iter : Expr} {scope : Scope} {own : List (Str × Nat)} {vs : List Nat} {wi : WL} {g : WG} {is : List Nat} (hc : X.calm = true) (hN : X.N.Nodup) (hi : ID X E tg iter wi) (ok : BlkOk X.N X.env.scope scope own)
    (hg : ∀ (s : Shared) (H : Hp) (C : Addr) (cl : List (Str × Addr)) (fp : List Addr), GD (X.blk s H scope (compEnvC scope cl C X.env) fp) tg is g)
    (he : ∀ (s : Shared) (H : Hp) (C : Addr) (cl : List (Str × Addr)) (fp : List Addr), ED (X.blk s H scope (compEnvC scope cl C X.env) fp) E0 elt we)
    (hy : X.N[i]? = some y := by rfl) (hyl : X.env.scope.names.lookup y = some .local := by rfl) (hsw : swapsWith (.ListComp elt [⟨tg, iter, [], 0⟩] scope pos) (some (.Name y py)) spos.line X.env = pure true := by exact sw_true rfl rfl rfl (by decide +kernel))
    (hvs : own.map (·.2) = vs := by rfl) (his : ∀ i ∈ is, i ∈ vs := by decide) (hs : ∀ x, foldedSetIterable iter X.env x = pure x := by intro _; rfl) :
    SD X E (.Assign [.Name y py] (.ListComp elt [⟨tg, iter, [], 0⟩] scope pos) spos) (wsSetF i (wLc wi g wtYes we vs)) := by
  subst hvs
  obtain ⟨ti, pti, s⟩ := hi.ex
  refine ⟨_, ps_setLc (i := i) (g := canG g is) (tt := tYes) (te := canE X.mg E0 we) hc hN hy hyl hsw pti ok (fun s H C cl fp => (hg s H C cl fp).can) (fun _ _ _ _ _ => pts_nil) (fun s H C cl fp => (he s H C cl fp).can) hs, fun q ρ hw F σ H S D rp o => ?_⟩
  refine s q.ex ρ _ hw F σ H S _ rp (o.exOk rp) fun ds J H1 S1 q1 g1 hJ D0 hD => ?_
  exact lc_sound (Q' := fun x H1 => gName i x σ H1 D.nx) his rp g1 hJ hD q1 (fun ρ2 σ2 H S R R' h r k => k true H S h (.refl r.sh)) fun xs vs H' S' q' g h0 h1 h2 hd =>
    o.nx _ _ H' S' q' ((rp.grow g).setOwn h1 h2 ⟨vs, rfl, hd⟩ (fg_free rp.fg h0) (own_ne rp h0))
theorem sd_setLcIf (i : Nat) {y : Str} {py spos : Pos} {elt tg iter c : Expr} {scope : Scope} {own : List (Str × Nat)} {vs : List Nat} {wi : WL} {g : WG} {is : List Nat} (hc : X.calm = true) (hN : X.N.Nodup) (hi : ID X E tg iter wi) (ok : BlkOk X.N X.env.scope scope own)
    (hg : ∀ (s : Shared) (H : Hp) (C : Addr) (cl : List (Str × Addr)) (fp : List Addr), GD (X.blk s H scope (compEnvC scope cl C X.env) fp) tg is g)
    (ht : ∀ (s : Shared) (H : Hp) (C : Addr) (cl : List (Str × Addr)) (fp : List Addr), TD (X.blk s H scope (compEnvC scope cl C X.env) fp) E0 c wt)
    (he : ∀ (s : Shared) (H : Hp) (C : Addr) (cl : List (Str × Addr)) (fp : List Addr), ED (X.blk s H scope (compEnvC scope cl C X.env) fp) E0 elt we)
    (hy : X.N[i]? = some y := by rfl) (hyl : X.env.scope.names.lookup y = some .local := by rfl) (hsw : swapsWith (.ListComp elt [⟨tg, iter, [c], 0⟩] scope pos) (some (.Name y py)) spos.line X.env = pure true := by exact sw_true rfl rfl rfl (by decide +kernel))
    (hvs : own.map (·.2) = vs := by rfl) (his : ∀ i ∈ is, i ∈ vs := by decide) (hs : ∀ x, foldedSetIterable iter X.env x = pure x := by intro _; rfl) :
    SD X E (.Assign [.Name y py] (.ListComp elt [⟨tg, iter, [c], 0⟩] scope pos) spos) (wsSetF i (wLc wi g wt we vs)) := by
  subst hvs
  obtain ⟨ti, pti, s⟩ := hi.ex
  refine ⟨_, ps_setLc (i := i) (g := canG g is) (tt := canT X.mg E0 wt) (te := canE X.mg E0 we) hc hN hy hyl hsw pti ok (fun s H C cl fp => (hg s H C cl fp).can) (fun s H C cl fp => pts_one (ht s H C cl fp).can) (fun s H C cl fp => (he s H C cl fp).can) hs, fun q ρ hw F σ H S D rp o => ?_⟩
  refine s q.ex ρ _ hw F σ H S _ rp (o.exOk rp) fun ds J H1 S1 q1 g1 hJ D0 hD => ?_
  exact lc_sound (Q' := fun x H1 => gName i x σ H1 D.nx) his rp g1 hJ hD q1 (fun ρ2 σ2 H S R R' h r k => ⟨X0, ρ2, R, F, S, h, r, exOk0, k⟩) fun xs vs H' S' q' g h0 h1 h2 hd =>
    o.nx _ _ H' S' q' ((rp.grow g).setOwn h1 h2 ⟨vs, rfl, hd⟩ (fg_free rp.fg h0) (own_ne rp h0))
/-- a target of several names -/
def wsAsg (w : WE) (g : WG) : WS := fun q ρ => w q.ex ρ fun d => g d ρ q.nx
theorem sd_asg {tg : Expr} {is : List Nat} {g : WG} (he : ED X E e w) (hg : GD X tg is g) (hs : swapsWithSole [tg] e pos.line X.env = pure false := by rfl) (hw : swappedStores [tg] e X.env = pure none := by rfl)
    (h1 : (assignEach [tg] X.env).map (·.2) = [assign tg X.env] := by rfl) : SD X E (.Assign [tg] e pos) (wsAsg w g) := by
  obtain ⟨t, pe, s⟩ := he.ex
  obtain ⟨tg, pg, sg⟩ := hg.ex
  refine ⟨_, ps_asg pe pg hs hw h1, fun q ρ hw F σ H S D rp o => ?_⟩
  refine s q.ex ρ _ hw F σ H S _ rp (o.exOk rp) fun d v H1 S1 q1 g1 h1 => ?_
  exact sg d ρ _ q1 F σ H1 S1 v _ (rp.grow g1) h1 fun ρ' σ' q2 r2 _ => o.nx _ _ H1 S1 q2 r2
/-- a, b = x, y -/
def wsPar (i j : Nat) (wa wb : WE) : WS := fun q ρ => wa q.ex ρ fun d => wb q.ex ρ fun d' => q.nx ((ρ.set i (.fz d)).set j (.fz d'))
theorem sd_par (i j : Nat) {x y : Str} {wb : WE} {px py pt : Pos} {kt k2 pt2} (hc : X.calm = true) (hN : X.N.Nodup) (ha : ED X E a wa) (hb : ED X E b wb) (hi : X.N[i]? = some x := by rfl) (hj : X.N[j]? = some y := by rfl) (hij : i ≠ j := by decide)
    (hx : X.env.scope.names.lookup x = some .local := by rfl) (hy : X.env.scope.names.lookup y = some .local := by rfl)
    (hw : swappedStores [.Tuple [.Name x px, .Name y py] kt pt] (.Tuple [a, b] k2 pt2) X.env = pure (some [x, y]) := by rfl)
    (hs : swapsWithSole [.Tuple [.Name x px, .Name y py] kt pt] (.Tuple [a, b] k2 pt2) pos.line X.env = pure false := by rfl)
    (he2 : starEach (b :: []) X.env = (false, eval b X.env) :: starEach [] X.env := by rfl) (he : starEach (a :: [b]) X.env = (false, eval a X.env) :: starEach [b] X.env := by rfl) :
    SD X E (.Assign [.Tuple [.Name x px, .Name y py] kt pt] (.Tuple [a, b] k2 pt2) pos) (wsPar i j wa wb) := by
  obtain ⟨t, pt, s⟩ := (ad_cons ha (ad_cons hb ad_nil he2) he).ex
  refine ⟨_, ps_par hc hN hi hj hij hx hy pt hw hs, fun q ρ hw F σ H S D rp o => ?_⟩
  refine s q.ex ρ (fun ds => match ds with
    | [d, d'] => q.nx ((ρ.set i (.fz d)).set j (.fz d'))
    | _ => False) hw F σ H S _ rp (o.exOk rp) fun ds vs H1 S1 q1 g1 h1 => ?_
  split at q1
  · unfold Dats Dats Dats at h1
    obtain ⟨v, _, rfl, d1, v', _, rfl, d2, rfl⟩ := h1
    exact ⟨v, v', rfl, o.nx _ _ H1 S1 q1 (((rp.grow g1).set d1).set d2)⟩
  · exact q1.elim
/-- name op= e -/
structure PipD (X : Cx) (op : Operator) (g : D → D → (D → Prop) → Prop) : Prop where
  ex : ∃ r : TIp, PIp X op r ∧ ∀ (d e : D) (Q : D → Prop), g d e Q → ∀ (H S : Hp) (u v : V) (Q' : VK), Same S H → Dat S d u → Dat S e v → (∀ z y, Q z → Dat S z y → Q' y H) → r u v H Q'
theorem pipAdd : PipD X .Add (gInt0 fun i j => i + j) := by
  refine ⟨_, ip_add, fun d e Q h H S u v Q' sh hd he k => ?_⟩
  unfold gInt0 at h
  split at h
  · unfold Dat at hd he
    exact ⟨_, _, hd, he, k _ _ h .i⟩
  · exact h.elim
theorem pipMul : PipD X .Mult (gInt CMulW fun i j => i * j) := by
  refine ⟨rI CMulW fun i j => .int (i * j), ?_, fun d e Q h H S u v Q' sh hd he k => ?_⟩
  · intro pins s σ H x y v u Q I r1 r2 h
    have o : OpR X (inplaceOp .Mult) (rI CMulW fun i j => .int (i * j)) := opI fun _ _ _ _ _ _ _ hc q => imul_int q hc.ok
    exact o pins s σ H x y v u Q I r1 r2 h
  · unfold gInt at h
    split at h
    · unfold Dat at hd he
      exact ⟨_, _, hd, he, h.1, k _ _ h.2 .i⟩
    · exact h.elim
def wsAug (i : Nat) (g : D → D → (D → Prop) → Prop) (w : WE) : WS := fun q ρ => match ρ[i]? with
  | some (.fz d) => w q.ex ρ fun d' => g d d' fun z => q.nx (ρ.set i (.fz z))
  | _ => False
theorem sd_aug (i : Nat) {x : Str} {p : Pos} {op : Operator} {g : D → D → (D → Prop) → Prop} (hN : X.N.Nodup) (ho : PipD X op g) (he : ED X E e w) (hi : X.N[i]? = some x := by rfl) (hx : Loc X.env.scope x := by first | exact Or.inl rfl | exact Or.inr rfl)
    (hf : X.fn x = true ∨ X.env.scope.names.lookup x = some .local := by first | exact .inl rfl | exact .inr rfl) : SD X E (.AugAssign (.Name x p) op e pos) (wsAug i g w) := by
  obtain ⟨t, pe, s⟩ := he.ex
  obtain ⟨r, pi, si⟩ := ho.ex
  refine ⟨_, ps_aug hN hi hx pe pi hf, fun q ρ hw F σ H S D rp o => ?_⟩
  unfold wsAug at hw
  split at hw
  · rename_i d hi
    obtain ⟨v, e, hd⟩ := rp.fz hi
    refine ⟨v, e, s q.ex ρ _ hw F σ H S _ rp (o.exOk rp) fun d' v' H1 S1 q1 g1 h1 => ?_⟩
    exact si d d' _ q1 H1 S1 v v' _ g1.sh (Dat.mono g1.ss _ _ hd) h1 fun z y q2 h2 => o.nx _ _ H1 S1 q2 ((rp.grow g1).set h2)
  · exact hw.elim

/-! ### methods that change a slot's own list -/
structure MutD (X : Cx) (id : String) (g : List D → List D → (List D → Prop) → Prop) : Prop where
  ex : ∃ r : V → List V → Hp → VK → Prop, MtR X id r ∧ ∀ (xs ds : List D) (Q : List D → Prop), g xs ds Q → ∀ (H S : Hp) (l : Addr) (us vs : List V) (Q' : VK), Same S H → H l = some (.lst us) → Dats S xs us → Dats S ds vs →
    (∀ ys ws v, Q ys → Dats S ys ws → Q' v (upd H l (.lst ws))) → r (.ref l) vs H Q'
def gApp : List D → List D → (List D → Prop) → Prop
  | xs, [d], Q => xs.length < sizeLine ∧ Q (xs ++ [d])
  | _, _, _ => False
theorem dats1 {S : Hp} {d : D} {vs : List V} (h : Dats S [d] vs) : ∃ v, vs = [v] ∧ Dat S d v := by
  unfold Dats Dats at h
  obtain ⟨v, _, rfl, h, rfl⟩ := h
  exact ⟨v, rfl, h⟩
theorem mApp : MutD X "list.append" gApp := by
  refine ⟨_, mt_append, fun xs ds Q h H S l us vs Q' sh hl hu hd k => ?_⟩
  unfold gApp at h
  split at h
  · obtain ⟨v, rfl, hv⟩ := dats1 hd
    exact ⟨l, us, v, rfl, rfl, hl, by rw [hu.len]; exact h.1, k _ _ _ h.2 (hu.app (.one hv))⟩
  · exact h.elim
def gExt : List D → List D → (List D → Prop) → Prop
  | xs, [.lst ys], Q => xs.length + ys.length ≤ sizeLine ∧ Q (xs ++ ys)
  | _, _, _ => False
theorem mExt : MutD X "list.extend" gExt := by
  refine ⟨_, mt_extend, fun xs ds Q h H S l us vs Q' sh hl hu hd k => ?_⟩
  unfold gExt at h
  split at h
  · obtain ⟨v, rfl, hv⟩ := dats1 hd
    unfold Dat at hv
    obtain ⟨b, ws, rfl, r, z⟩ := hv
    exact ⟨l, b, us, ws, rfl, rfl, hl, sh _ _ r, by rw [hu.len, z.len]; exact h.1, k _ _ _ h.2 (hu.app z)⟩
  · exact h.elim
def gPop0 : List D → List D → (List D → Prop) → Prop
  | xs, [], Q => xs ≠ [] ∧ Q xs.dropLast
  | _, _, _ => False
theorem mPop : MutD X "list.pop" gPop0 := by
  refine ⟨_, mt_pop, fun xs ds Q h H S l us vs Q' sh hl hu hd k => ?_⟩
  unfold gPop0 at h
  split at h
  · unfold Dats at hd
    subst hd
    have hlen := hu.len
    have hpos : 0 < us.length := by
      rw [hlen]
      exact List.length_pos_iff.mpr h.1
    exact ⟨l, us, us[us.length - 1], rfl, rfl, hl, List.getElem?_eq_getElem (by omega), k _ _ _ h.2 hu.dropLast⟩
  · exact h.elim
def gRev : List D → List D → (List D → Prop) → Prop
  | xs, [], Q => Q xs.reverse
  | _, _, _ => False
theorem mRev : MutD X "list.reverse" gRev := by
  refine ⟨_, mt_reverse, fun xs ds Q h H S l us vs Q' sh hl hu hd k => ?_⟩
  unfold gRev at h
  split at h
  · unfold Dats at hd
    subst hd
    exact ⟨l, us, rfl, rfl, hl, k _ _ _ h hu.rev⟩
  · exact h.elim
variable {T name id : String} {es : List Expr} {apos mpos : Pos} {p : Pos} {x : Str}
def wMut (i : Nat) (g : List D → List D → (List D → Prop) → Prop) (wl : WL) : WS := fun q ρ => match ρ[i]? with
  | some (.own m (.lst xs)) => wl q.ex ρ fun ds => g xs ds fun ys => q.nx (ρ.set i (.own m (.lst ys)))
  | _ => False
theorem mut_sound {i : Nat} {g : List D → List D → (List D → Prop) → Prop} {r : V → List V → Hp → VK → Prop} {t : TA}
    (so : ∀ (xs ds : List D) (Q : List D → Prop), g xs ds Q → ∀ (H S : Hp) (l : Addr) (us vs : List V) (Q' : VK), Same S H → H l = some (.lst us) → Dats S xs us → Dats S ds vs →
      (∀ ys ws v, Q ys → Dats S ys ws → Q' v (upd H l (.lst ws))) → r (.ref l) vs H Q')
    (s : ∀ (x : XS) (ρ : Ev) (Q : List D → Prop), wl x ρ Q → ∀ (F : Fr) (σ : L2.St) (H S : Hp) (Q' : List V → Hp → Prop), Rep F ρ σ H S → ExOk X.mg E x H S →
      (∀ ds vs H' S', Q ds → Grow H S H' S' → Dats S' ds vs → Q' vs H') → t σ H Q')
    (q : DEnds) (ρ : Ev) (hw : wMut i g wl q ρ) (F : Fr) (σ : L2.St) (H S : Hp) (D : Ends) (rp : Rep F ρ σ H S) (o : EndsOk X.mg E F q D) : tDrop (tBM X.K "list" r (tVar i) t) D σ H := by
  unfold wMut at hw
  split at hw
  · rename_i m xs hi
    obtain ⟨l, u, e, h1, h2, ⟨us, rfl, h3⟩, _⟩ := rp.own hi
    refine ⟨.ref l, e, .inl ⟨rfl, _, .of h2⟩, ?_⟩
    refine s q.ex ρ _ hw F σ H S _ rp (o.exOk rp) fun ds vs H1 S1 q1 g1 hd => ?_
    refine so xs ds _ q1 H1 S1 l us vs _ g1.sh (g1.hh.lst h2) (Dats.mono g1.ss _ _ h3) hd fun ys ws v q2 hy => ?_
    exact o.nx _ _ _ S1 q2 ((rp.grow g1).put (o' := .lst ws) hi e ⟨ws, rfl, hy⟩)
  · exact hw.elim
theorem sd_mut (i : Nat) {g : List D → List D → (List D → Prop) → Prop} (hm : MutD X id g) (slot : Slot "list" name id) (hty : typeOf (.builtin id) = pure (.type "method_descriptor")) (ha : AD X E (e :: es) wl)
    (hN : X.N[i]? = some x := by rfl) (hv : Vis X.env.scope x := by first | exact Or.inl rfl | exact Or.inr (Or.inl rfl) | exact Or.inr (Or.inr rfl)) (hd : (x == ("__debug__" : Str)) = false := by decide) (hcd : (x == ("__classdict__" : Str)) = false := by decide)
    (hbase : attributeBase (.Name x p) name X.env (eval (.Name x p) X.env) = eval (.Name x p) X.env := by rfl)
    (hfew : ((backTo mpos (starEach (e :: es) X.env)).all (fun x => !x.1) && (backToKw mpos (keywordEach [] X.env)).all (fun x => x.1.isSome)
      && decide ((e :: es).length + ([] : List Keyword).length + (if ([] : List Keyword).isEmpty then 0 else 1) < 30)) = true := by rfl)
    (hline : (apos.endLine == mpos.line) = true := by rfl) (hst : starEach (e :: es) X.env = (false, eval e X.env) :: starEach es X.env := by rfl) (hplain : (backTo mpos (starEach es X.env)).any (·.1) = false := by rfl)
    (hs : swapsWith (.Call (.Attribute (.Name x p) name apos) (e :: es) [] mpos) none pos.line X.env = pure false := by rfl) :
    SD X E (.Expr (.Call (.Attribute (.Name x p) name apos) (e :: es) [] mpos) pos) (wMut i g wl) := by
  obtain ⟨r, mr, so⟩ := hm.ex
  obtain ⟨t, pt, s⟩ := ha.ex
  exact ⟨_, ps_expr (pe_bm PySem.F.plainAttrs_list slot hty mr (pe_var hN hv hd hcd) pt hbase hfew hline hst hplain) hs, mut_sound so s⟩
theorem sd_mut0 (i : Nat) {g : List D → List D → (List D → Prop) → Prop} (hm : MutD X id g) (slot : Slot "list" name id) (hty : typeOf (.builtin id) = pure (.type "method_descriptor"))
    (hN : X.N[i]? = some x := by rfl) (hv : Vis X.env.scope x := by first | exact Or.inl rfl | exact Or.inr (Or.inl rfl) | exact Or.inr (Or.inr rfl)) (hd : (x == ("__debug__" : Str)) = false := by decide) (hcd : (x == ("__classdict__" : Str)) = false := by decide)
    (hbase : attributeBase (.Name x p) name X.env (eval (.Name x p) X.env) = eval (.Name x p) X.env := by rfl) (hline : (apos.endLine == mpos.line) = true := by rfl)
    (hs : swapsWith (.Call (.Attribute (.Name x p) name apos) [] [] mpos) none pos.line X.env = pure false := by rfl) :
    SD X E (.Expr (.Call (.Attribute (.Name x p) name apos) [] [] mpos) pos) (wMut i g wNil) := by
  obtain ⟨r, mr, so⟩ := hm.ex
  refine ⟨_, ps_expr (pe_bm0 PySem.F.plainAttrs_list slot hty mr (pe_var hN hv hd hcd) hbase hline) hs, fun q ρ hw F σ H S D rp o => ?_⟩
  unfold wMut at hw
  split at hw
  · rename_i m xs hi
    obtain ⟨l, u, e, h1, h2, ⟨us, rfl, h3⟩, _⟩ := rp.own hi
    refine ⟨.ref l, e, .inl ⟨rfl, _, .of h2⟩, ?_⟩
    refine so xs [] _ hw H S l us [] _ rp.sh h2 h3 .nil fun ys ws v q2 hy => ?_
    exact o.nx _ _ _ S q2 (rp.put (o' := .lst ws) hi e ⟨ws, rfl, hy⟩)
  · exact hw.elim
/-- l[k] = e, l a slot's own list -/
def wsSetIx (i : Nat) (w wb : WE) : WS := fun q ρ => w q.ex ρ fun d => match ρ[i]? with
  | some (.own m (.lst xs)) => wb q.ex ρ fun k => match k with
    | .int k => ∃ j, ixN xs.length k = some j ∧ q.nx (ρ.set i (.own m (.lst (xs.set j d))))
    | _ => False
  | _ => False
theorem sd_setIx (i : Nat) {tpos : Pos} (he : ED X E e w) (hb : ED X E b wb) (hN : X.N[i]? = some x := by rfl) (hv : Vis X.env.scope x := by first | exact Or.inl rfl | exact Or.inr (Or.inl rfl) | exact Or.inr (Or.inr rfl)) (hd : (x == ("__debug__" : Str)) = false := by decide) (hcd : (x == ("__classdict__" : Str)) = false := by decide)
    (ha : ∀ v, assign (.Subscript (.Name x p) b tpos) X.env v = (do
      let ov ← holding [v] (eval (.Name x p) X.env)
      let iv ← holding [v, ov] (eval b X.env)
      standAt tpos
      holding [v, ov, iv] (setItem ov iv v)
      release [v, ov, iv] []) := by intro _; rfl) (hs : swapsWithSole [.Subscript (.Name x p) b tpos] e pos.line X.env = pure false := by rfl) (hw : swappedStores [.Subscript (.Name x p) b tpos] e X.env = pure none := by rfl)
    (h1 : (assignEach [.Subscript (.Name x p) b tpos] X.env).map (·.2) = [assign (.Subscript (.Name x p) b tpos) X.env] := by rfl) :
    SD X E (.Assign [.Subscript (.Name x p) b tpos] e pos) (wsSetIx i w wb) := by
  obtain ⟨t, pe, s⟩ := he.ex
  obtain ⟨tb, pb, sb⟩ := hb.ex
  refine ⟨_, ps_asg pe (pg_sub (pe_var hN hv hd hcd) pb set_list ha) hs hw h1, fun q ρ hw F σ H S D rp o => ?_⟩
  refine s q.ex ρ _ hw F σ H S _ rp (o.exOk rp) fun d v H1 S1 q1 g1 h1 => ?_
  split at q1
  · rename_i m xs hi
    have rp1 := rp.grow g1
    obtain ⟨l, u, e, z1, z2, ⟨us, rfl, z3⟩, _⟩ := rp1.own hi
    refine ⟨.ref l, e, sb q.ex ρ _ q1 F σ H1 S1 _ rp1 (o.exOk rp1) fun k kv H2 S2 q2 g2 h2 => ?_⟩
    cases k with
    | int k =>
      unfold Dat at h2
      subst h2
      obtain ⟨j, hj, q2⟩ := q2
      exact ⟨l, us, k, j, rfl, rfl, g2.hh.lst z2, by rw [z3.len]; exact hj, o.nx _ _ _ S2 q2 ((rp1.grow g2).put hi e ⟨_, rfl, (Dats.mono g2.ss _ _ z3).set j (Dat.mono g2.ss _ _ h1)⟩)⟩
    | _ => exact q2.elim
  · exact q1.elim

/-! ### loops -/
def loopL (g : WG) (wb : WS) (q : DEnds) : List D → Ev → Prop
  | [], ρ => q.nx ρ
  | d :: ds, ρ => g d ρ fun ρ1 => wb { q with nx := loopL g wb q ds, ct := loopL g wb q ds, bk := q.nx } ρ1
def wFor (wi : WL) (g : WG) (wb : WS) : WS := fun q ρ => wi q.ex ρ fun ds => loopL g wb q ds ρ
theorem fg_in {F : Fr} {H S S1 : Hp} (f : FGrow { F with S0 := S1 } H S) (ss : Same F.S0 S1) (nw : ∀ a, F.H0 a ≠ none → S1 a = F.S0 a) : FGrow F H S :=
  ⟨f.hh, f.al, ss.trans f.ss, f.sh, fun a h => (f.nw a h).trans (nw a h), f.ft, f.tb⟩
theorem rep_in {F : Fr} {ρ : Ev} {σ : L2.St} {H S S1 : Hp} (r : Rep { F with S0 := S1 } ρ σ H S) (ss : Same F.S0 S1) (nw : ∀ a, F.H0 a ≠ none → S1 a = F.S0 a) : Rep F ρ σ H S := by
  refine ⟨fg_in r.fg ss nw, r.len, fun i sl h => ?_, r.dist⟩
  have q := r.at' i sl h
  cases sl with
  | un => trivial
  | fz d => exact q
  | own m c => exact q
theorem rep_to {F : Fr} {ρ : Ev} {σ : L2.St} {H S : Hp} (r : Rep F ρ σ H S) : Rep { F with S0 := S } ρ σ H S := by
  refine ⟨⟨r.fg.hh, r.fg.al, .refl _, r.fg.sh, fun _ _ => rfl, r.fg.ft, r.fg.tb⟩, r.len, fun i sl h => ?_, r.dist⟩
  have q := r.at' i sl h
  cases sl with
  | un => trivial
  | fz d => exact q
  | own m c => exact q
theorem sd_for {tg iter : Expr} {is : List Nat} {g : WG} {wi : WL} {body : List Stmt} (xk : XOk X E) (hc : X.calm = true) (hi : ID X E tg iter wi) (hg : GD X tg is g) (hb : SDs X E body ws) (hs : ∀ x, foldedSetIterable iter X.env x = pure x := by intro _; rfl) :
    SD X E (.For tg iter body [] pos) (wFor wi g ws) := by
  obtain ⟨ti, pti, si⟩ := hi.ex
  obtain ⟨tg, pg, sg⟩ := hg.ex
  obtain ⟨tb, pb, sb⟩ := hb.ex
  refine ⟨_, ps_for xk.own hc pti pg pb hs, fun q ρ hw F σ H S D rp o => ?_⟩
  refine si q.ex ρ _ hw F σ H S _ rp (o.exOk rp) fun ds J H1 S1 q1 g1 hJ => ?_
  have rp1 := rp.grow g1
  have ss1 := rp1.fg.ss
  have nw1 := rp1.fg.nw
  let W : Nat → Nat → L2.St → Hp → Prop := fun i m σ H => m = ds.length - i ∧ i ≤ ds.length ∧ ∃ ρ S, Rep { F with S0 := S1 } ρ σ H S ∧ loopL g ws q (ds.drop i) ρ
  refine ⟨W, ⟨ds.length, by simp, Nat.zero_le _, ρ, S1, rep_to rp1, q1⟩, ?_⟩
  rintro i m σ2 H2 ⟨rfl, hi, ρ2, S2, r2, hl⟩
  rcases Nat.lt_or_ge i ds.length with hlt | hge
  · obtain ⟨d, hdi⟩ : ∃ d, ds[i]? = some d := ⟨_, List.getElem?_eq_getElem hlt⟩
    obtain ⟨go, yl⟩ := (hJ i H2 S2 r2.fg.ss r2.fg.sh).1 d hdi
    have hdrop : ds.drop i = d :: ds.drop (i + 1) := by
      rw [List.drop_eq_getElem_cons hlt]
      congr 1
      rw [List.getElem?_eq_getElem hlt] at hdi
      exact Option.some.inj hdi
    rw [hdrop] at hl
    refine .inr ⟨go, W (i + 1) (ds.length - (i + 1)), fun σ' H' h => ⟨_, by omega, h⟩, fun x H' y => ?_⟩
    obtain ⟨S', g', dx⟩ := yl x H' y
    refine sg d ρ2 _ hl { F with S0 := S1 } σ2 H' S' x _ (r2.grow g') dx fun ρ3 σ3 h3 r3 _ => ?_
    refine sb _ ρ3 h3 { F with S0 := S1 } σ3 H' S' _ r3 ⟨fun ρ4 σ4 H4 S4 q4 r4 => ⟨rfl, hlt, ρ4, S4, r4, q4⟩, fun r ρ4 v σ4 H4 S4 q4 r4 p4 => o.rt r ρ4 v σ4 H4 S4 q4 (rep_in r4 ss1 nw1) p4,
      fun ρ4 σ4 H4 S4 q4 r4 => o.nx ρ4 σ4 H4 S4 q4 (rep_in r4 ss1 nw1), fun ρ4 σ4 H4 S4 q4 r4 => ⟨rfl, hlt, ρ4, S4, r4, q4⟩, fun n C H4 S4 h1 h2 h3 => o.ex n C H4 S4 h1 h2 (fg_in h3 ss1 nw1)⟩
  · have e : i = ds.length := by omega
    subst e
    rw [List.drop_length] at hl
    exact .inl ⟨(hJ _ H2 S2 r2.fg.ss r2.fg.sh).2 (Nat.le_refl _), o.nx ρ2 σ2 H2 S2 hl (rep_in r2 ss1 nw1)⟩
/-- while, by a word and a measure -/
def wWhile (wt : WT) (wb : WS) : WS := fun q ρ => ∃ I : Nat → Ev → Prop, (∃ m, I m ρ) ∧ ∀ m ρ, I m ρ → wt q.ex ρ fun b => Br b (wb { q with nx := fun ρ' => ∃ m', m' < m ∧ I m' ρ', ct := fun ρ' => ∃ m', m' < m ∧ I m' ρ', bk := q.nx } ρ) (q.nx ρ) ⟨⟩ ⟨⟩
theorem sd_while {c : Expr} {body : List Stmt} (xk : XOk X E) (hc : TD X E c wt) (hb : SDs X E body ws) : SD X E (.While c body [] pos) (wWhile wt ws) := by
  obtain ⟨t, p, s⟩ := hc.ex
  obtain ⟨tb, pb, sb⟩ := hb.ex
  refine ⟨_, ps_while xk.own p pb, fun q ρ hw F σ H S D rp o => ?_⟩
  obtain ⟨I, ⟨m0, h0⟩, turn⟩ := hw
  refine ⟨fun m σ H => ∃ ρ S, Rep F ρ σ H S ∧ I m ρ, ⟨m0, ρ, S, rp, h0⟩, ?_⟩
  rintro m σ2 H2 ⟨ρ2, S2, r2, h2⟩
  refine s q.ex ρ2 _ (turn m ρ2 h2) F σ2 H2 S2 _ r2 (o.exOk r2) fun b H3 S3 q3 g3 => ?_
  cases b with
  | true =>
    refine iteT ⟨fun σ' H' => ∃ m', m' < m ∧ ∃ ρ S, Rep F ρ σ' H' S ∧ I m' ρ, fun σ' H' h => h, ?_⟩
    exact sb _ ρ2 q3 F σ2 H3 S3 _ (r2.grow g3) ⟨fun ρ4 σ4 H4 S4 ⟨m', hm, q4⟩ r4 => ⟨m', hm, ρ4, S4, r4, q4⟩, o.rt, o.nx, fun ρ4 σ4 H4 S4 ⟨m', hm, q4⟩ r4 => ⟨m', hm, ρ4, S4, r4, q4⟩, o.ex⟩
  | false => exact iteF (o.nx ρ2 σ2 H3 S3 q3 (r2.grow g3))

/-! ### raise X('..') -/
structure ExcC (K : PySem.W.Frag) (mg : Str → Option Value) (n : Str) (C : Addr) : Prop where
  g : mg n = some (.ref C)
  x : PySem.W.excIn K C [.type "ValueError", .type "Exception", .type "BaseException", .type "object"] "ValueError.__new__" = true
  k : PySem.W.keepIn K (.ref C) = true
  b : PySem.W.subIn K (.ref C) (.type "BaseException") = some true
  t : PySem.W.typeIn K (.ref C) = some (.type "type")
def wsRaise (n : Str) : WS := fun q _ => q.ex n
theorem sd_raise {n m : Str} {C : Addr} {j : Nat} {p1 p2 p3 : Pos} (xk : XOk X E) (hc : X.calm = true) (c : ExcC X.K X.mg n C) (hg : Gl X n) (hdb : (n == ("__debug__" : Str)) = false := by decide) :
    SD X E (.Raise (some (.Call (.Name n p1) [.Constant (.str m) j p2] [] p3)) none pos) (wsRaise n) :=
  ⟨_, ps_raise hc xk.take (pmk_own PySem.F.excBase_ValueError c.x c.g c.k (raises_own c.b c.t) hg hdb), fun q ρ hw F σ H S D rp o => o.ex n C H S hw c.g rp.fg⟩
end

/-! ### a def by its body -/
def startE (n : Nat) (ds : List D) : Ev := ds.map .fz ++ List.replicate (n - ds.length) .un
theorem rep_start {H S : Hp} {N : List Str} {ds : List D} {vs : List V} (sh : Same S H) (tb : LamX.Tabs KC.T H) (h : Dats S ds vs) (hl : ds.length ≤ N.length) : Rep { H0 := H, S0 := S, M := fun _ => False } (startE N.length ds) (L2.start N vs) H S := by
  have hlen := h.len
  refine ⟨⟨fun _ _ _ e _ => e, fun _ e => e, .refl _, sh, fun _ _ => rfl, fun _ _ h => h, tb⟩, ?_, fun i sl e => ?_, fun i j m m' c c' _ e _ => ?_⟩
  · unfold L2.start startE
    simp only [List.length_append, List.length_map, List.length_replicate]
    omega
  · unfold startE at e
    rcases Nat.lt_or_ge i ds.length with hi | hi
    · rw [List.getElem?_append_left (by simpa using hi), List.getElem?_map] at e
      cases q : ds[i]? with
      | none => rw [q] at e; cases e
      | some d =>
        rw [q] at e
        cases e
        obtain ⟨v, hv, hz⟩ := h.get q
        refine ⟨v, ?_, hz⟩
        unfold L2.start
        rw [List.getElem?_append_left (by rw [List.length_map, hlen]; exact hi), List.getElem?_map, hv]
        rfl
    · rw [List.getElem?_append_right (by simpa using hi), List.getElem?_replicate] at e
      split at e
      · cases e
        trivial
      · cases e
  · unfold startE at e
    rcases Nat.lt_or_ge i ds.length with hi | hi
    · rw [List.getElem?_append_left (by simpa using hi), List.getElem?_map] at e
      cases q : ds[i]? with
      | none => rw [q] at e; cases e
      | some d => rw [q] at e; cases e
    · rw [List.getElem?_append_right (by simpa using hi), List.getElem?_replicate] at e
      split at e
      · cases e
      · cases e
section
variable {P : Program} {w : World} {K : PySem.W.Frag} {mg : Str → Option Value} {base : Heap}
def endsOf (R : Rt → Prop) (x : XS) : DEnds := { nx := fun _ => R (.val .non), rt := fun r _ => R r, ex := x }
/-- the context of a def's body -/
abbrev cxF (P : Program) (w : World) (K : PySem.W.Frag) (mg : Str → Option Value) (base : Heap) (N : List Str) (qual : Str) (sc : Scope) (f : Addr) (cdv : Value) (A : Around) (outer : List Env) (s : Shared) (H : Hp) (E : XK) : Cx :=
  cxOf (L2.CX P w) P w K mg base N qual sc f cdv A outer s H E
theorem xk_fn {N : List Str} {qual : Str} {sc : Scope} {f : Addr} {cdv : Value} {A : Around} {outer : List Env} {s : Shared} {H : Hp} {E : XK} : XOk (cxF P w K mg base N qual sc f cdv A outer s H E) E := by
  have tk : Takes (cxF P w K mg base N qual sc f cdv A outer s H E) (fun cls d _ H => E cls d H) := takes_of rfl rfl rfl rfl
  exact ⟨passes_call tk fun _ _ _ _ h => h, tk, passes_of rfl⟩
theorem fn_ok {x qual : Str} {st : Stmt} {f : Addr} {fd : FuncData} {N ps : List Str} {k : Nat} {sp : Spec} (F : Fun K x qual st f fd) (S : FnScope N ps (defScope st)) (len : ∀ ds x R, sp ds x R → ds.length = ps.length)
    (hbody : ∀ (cdv : Value) (A : Around) (outer : List Env) (s : Shared) (H : Hp) (E : XK), Room k (A.deeper (envOfC qual (defScope st) s.heap.objs.size f cdv)) → XOk (cxF P w K mg base N qual (defScope st) f cdv A outer s H E) E →
      ∃ ws, SDs (cxF P w K mg base N qual (defScope st) f cdv A outer s H E) E (defBody st) ws ∧ ∀ ds x R, sp ds x R → ws (endsOf R x) (startE N.length ds)) :
    FnOk P w K mg base (L2.CX P w) (k + 1) f fd ps (spOf mg sp) := by
  have hpl : ps.length ≤ N.length := by
    have := congrArg List.length S.pre
    rw [List.length_take] at this
    omega
  refine F.okX S (fun vs H Q E h => ?_) (fun cdv A outer s H vs Q E hr h => ?_)
  · obtain ⟨ds, S, x, R, _, hd, hs, _⟩ := h
    rw [hd.len]
    exact len ds x R hs
  · obtain ⟨ds, S0, x, R, ⟨sh, tb⟩, hd, hs, k1, k2⟩ := h
    obtain ⟨ws, sd, pure⟩ := hbody cdv A outer s H E hr xk_fn
    obtain ⟨t, pt, so⟩ := sd.ex
    have hl : ds.length ≤ N.length := by rw [len ds x R hs]; exact hpl
    have gr : ∀ {H' S' : Hp}, FGrow { H0 := H, S0 := S0, M := fun _ => False } H' S' → Grow H S0 H' S' := fun f => ⟨⟨fun a o e n => f.hh a o (fun z => z) e n, f.al, f.ft⟩, f.ss, f.sh, f.nw⟩
    refine ⟨t, pt, so _ _ (pure ds x R hs) _ _ H S0 _ (rep_start sh tb hd hl) ⟨fun ρ σ H' S' q r => k1 _ _ H' S' q (gr r.fg) (show Dat S' .non .non from .n), fun r ρ v σ H' S' q rp p => k1 r v H' S' q (gr rp.fg) p, fun _ _ _ _ z => z.elim, fun _ _ _ _ z => z.elim, fun n C H' S' h1 h2 h3 => k2 n C H' S' h1 h2 (gr h3)⟩⟩
end
end NL

namespace NL
open PySem PySem.Spec L2
open PyProof.Rows hiding St
variable [KC]

/-! ### a def that changes the list handed in first -/
structure GrowM (p : Addr) (H S H' S' : Hp) : Prop where
  hh : ∀ a o, a ≠ p → H a = some o → (∀ ps, o ≠ .tbl ps) → H' a = some o
  ne : ∀ a, H a ≠ none → H' a ≠ none
  tab : ∀ P q, LamX.TabS H P q → LamX.TabS H' P q
  ss : Same S S'
  sh : Same S' H'
  nw : ∀ a, H a ≠ none → S' a = S a
theorem Rep.putM {F : Fr} {ρ : Ev} {σ : L2.St} {H S H' S' : Hp} {i : Nat} {m : Bool} {c c' : Cn} {p : Addr} {o' : HO} (r : Rep F ρ σ H S) (h : ρ[i]? = some (.own m c)) (hp : σ[i]? = some (some (.ref p))) (g : GrowM p H S H' S') (hH : H' p = some o') (hc : CnOk S' c' o') :
    Rep F (ρ.set i (.own m c')) σ H' S' := by
  obtain ⟨p', o1, e1, e2, e3, e4, e5, e6⟩ := r.own h
  have : p' = p := by
    rw [e1] at hp
    cases hp
    rfl
  subst this
  have hl : i < ρ.length := by
    rcases Nat.lt_or_ge i ρ.length with q | q
    · exact q
    · rw [List.getElem?_eq_none q] at h
      cases h
  have keep := g.ne
  refine ⟨⟨fun a u hm ha nt => ?_, fun a ha => keep a (r.fg.al a ha), r.fg.ss.trans g.ss, g.sh, fun a ha => (g.nw a (r.fg.al a ha)).trans (r.fg.nw a ha), fun P q h => g.tab P q (r.fg.ft P q h), fun q h => g.tab _ _ (r.fg.tb q h)⟩, by simp [r.len], fun j sl e => ?_, fun j k m1 m2 c1 c2 n q1 q2 => ?_⟩
  · have ne : a ≠ p' := fun z => by
      subst z
      cases m with
      | true => exact hm (e5 rfl)
      | false => rw [e6 rfl] at ha; cases ha
    exact g.hh a u ne (r.fg.hh a u hm ha nt) nt
  · by_cases z : i = j
    · subst z
      rw [List.getElem?_set_self hl] at e
      cases e
      exact ⟨p', o', hp, by rw [g.nw p' (by rw [e3]; intro z; cases z)]; exact e2, hH, hc, e5, e6⟩
    · rw [List.getElem?_set_ne z] at e
      have q := r.at' j sl e
      cases sl with
      | un => trivial
      | fz d =>
        obtain ⟨v, f1, f2⟩ := q
        exact ⟨v, f1, Dat.mono g.ss d v f2⟩
      | own m3 c3 =>
        obtain ⟨p3, o3, f1, f2, f3, f4, f5⟩ := q
        have ne : p3 ≠ p' := fun z3 => r.dist i j m m3 c c3 z h e (by rw [hp, f1, z3])
        exact ⟨p3, o3, f1, by rw [g.nw p3 (by rw [f3]; intro z; cases z)]; exact f2, g.hh _ _ ne f3 f4.ntb.1, f4.mono g.ss, f5⟩
  · have conv : ∀ (l : Nat) (m4 : Bool) (c4 : Cn), (ρ.set i (.own m c'))[l]? = some (.own m4 c4) → ∃ m5 c5, ρ[l]? = some (.own m5 c5) := fun l m4 c4 q => by
      by_cases z : i = l
      · subst z
        exact ⟨m, c, h⟩
      · rw [List.getElem?_set_ne z] at q
        exact ⟨_, _, q⟩
    obtain ⟨_, _, w1⟩ := conv _ _ _ q1
    obtain ⟨_, _, w2⟩ := conv _ _ _ q2
    exact r.dist j k _ _ _ _ n w1 w2
/-- content, the other arguments, behind: content, what is told -/
abbrev SpecM := List D → List D → (List D → D → Prop) → Prop
def spOfM (sp : SpecM) : Sp := fun vs H Q _ => ∃ p us rest xs ds S R, vs = .ref p :: rest ∧ (Same S H ∧ LamX.Tabs KC.T H) ∧ S p = none ∧ H p = some (.lst us) ∧ Dats S xs us ∧ Dats S ds rest ∧ sp xs ds R ∧
  (∀ ys d v H' S' ws, R ys d → GrowM p H S H' S' → H' p = some (.lst ws) → Dats S' ys ws → Dat S' d v → Q v H')
section
variable {P : Program} {w : World} {K : PySem.W.Frag} {mg : Str → Option Value} {base : Heap}
def endM (R : List D → D → Prop) (r : Rt) (ρ : Ev) : Prop := match r, (ρ[0]? : Option Sl) with
  | .val d, some (.own true (.lst ys)) => R ys d
  | _, _ => False
def endsM (R : List D → D → Prop) : DEnds where
  nx := endM R (.val .non)
  rt := endM R
  ex := fun _ => False
def startM (n : Nat) (xs ds : List D) : Ev := .own true (.lst xs) :: startE (n - 1) ds
theorem rep_startM {H S : Hp} {N : List Str} {ds xs : List D} {vs us : List V} {p : Addr} (sh : Same S H) (tb : LamX.Tabs KC.T H) (hS : S p = none) (hH : H p = some (.lst us)) (hx : Dats S xs us) (h : Dats S ds vs) (hl : ds.length + 1 ≤ N.length) :
    Rep { H0 := H, S0 := S, M := fun a => a = p } (startM N.length xs ds) (L2.start N (.ref p :: vs)) H S := by
  have hlen := h.len
  have st : L2.start N (.ref p :: vs) = some (.ref p) :: (vs.map some ++ List.replicate (N.length - (vs.length + 1)) none) := rfl
  refine ⟨⟨fun _ _ _ e _ => e, fun _ e => e, .refl _, sh, fun _ _ => rfl, fun _ _ h => h, tb⟩, ?_, fun i sl e => ?_, fun i j m m' c c' ne e1 e2 => ?_⟩
  · rw [st]
    unfold startM startE
    simp only [List.length_append, List.length_map, List.length_replicate, List.length_cons]
    omega
  · rw [st]
    unfold startM startE at e
    cases i with
    | zero =>
      cases e
      exact ⟨p, _, rfl, hS, hH, ⟨us, rfl, hx⟩, fun _ => rfl, fun z => by cases z⟩
    | succ i =>
      rw [List.getElem?_cons_succ] at e ⊢
      rcases Nat.lt_or_ge i ds.length with hi | hi
      · rw [List.getElem?_append_left (by simpa using hi), List.getElem?_map] at e
        cases q : ds[i]? with
        | none => rw [q] at e; cases e
        | some d =>
          rw [q] at e
          cases e
          obtain ⟨v, hv, hz⟩ := h.get q
          refine ⟨v, ?_, hz⟩
          rw [List.getElem?_append_left (by rw [List.length_map, hlen]; exact hi), List.getElem?_map, hv]
          rfl
      · rw [List.getElem?_append_right (by simpa using hi), List.getElem?_replicate] at e
        split at e
        · cases e
          trivial
        · cases e
  · have only : ∀ (i : Nat) (m : Bool) (c : Cn), (startM N.length xs ds)[i]? = some (.own m c) → i = 0 := fun i m c e => by
      unfold startM startE at e
      cases i with
      | zero => rfl
      | succ i =>
        rw [List.getElem?_cons_succ] at e
        rcases Nat.lt_or_ge i ds.length with hi | hi
        · rw [List.getElem?_append_left (by simpa using hi), List.getElem?_map] at e
          cases q : ds[i]? with
          | none => rw [q] at e; cases e
          | some d => rw [q] at e; cases e
        · rw [List.getElem?_append_right (by simpa using hi), List.getElem?_replicate] at e
          split at e
          · cases e
          · cases e
    exact absurd ((only i m c e1).trans (only j m' c' e2).symm) ne
theorem fn_okM {x qual : Str} {st : Stmt} {f : Addr} {fd : FuncData} {N ps : List Str} {k : Nat} {sp : SpecM} (F : Fun K x qual st f fd) (S : FnScope N ps (defScope st)) (len : ∀ xs ds R, sp xs ds R → ds.length + 1 = ps.length)
    (hbody : ∀ (cdv : Value) (A : Around) (outer : List Env) (s : Shared) (H : Hp) (E : XK), Room k (A.deeper (envOfC qual (defScope st) s.heap.objs.size f cdv)) → XOk (cxF P w K mg base N qual (defScope st) f cdv A outer s H E) E →
      ∃ ws, SDs (cxF P w K mg base N qual (defScope st) f cdv A outer s H E) E (defBody st) ws ∧ ∀ xs ds R, sp xs ds R → ws (endsM R) (startM N.length xs ds)) :
    FnOk P w K mg base (L2.CX P w) (k + 1) f fd ps (spOfM sp) := by
  have hpl : ps.length ≤ N.length := by
    have := congrArg List.length S.pre
    rw [List.length_take] at this
    omega
  refine F.okX S (fun vs H Q E h => ?_) (fun cdv A outer s H vs Q E hr h => ?_)
  · obtain ⟨p, us, rest, xs, ds, S0, R, rfl, _, _, _, _, hd, hs, _⟩ := h
    rw [List.length_cons, hd.len]
    exact len xs ds R hs
  · obtain ⟨p, us, rest, xs, ds, S0, R, rfl, ⟨sh, tb⟩, hS, hH, hx, hd, hs, k1⟩ := h
    obtain ⟨ws, sd, pure⟩ := hbody cdv A outer s H E hr xk_fn
    obtain ⟨t, pt, so⟩ := sd.ex
    have hl : ds.length + 1 ≤ N.length := by rw [len xs ds R hs]; exact hpl
    have fin : ∀ {ρ : Ev} {σ : L2.St} {H' S' : Hp} {ys : List D} {d : D} {v : V}, Rep { H0 := H, S0 := S0, M := fun a => a = p } ρ σ H' S' → ρ[0]? = some (.own true (.lst ys)) → R ys d → Dat S' d v → Q v H' := fun {ρ σ H' S' ys d v} r h0 q hd => by
      obtain ⟨p', o, e1, e2, e3, ⟨ws, rfl, e4⟩, e5, _⟩ := r.own h0
      have : p' = p := e5 rfl
      subst this
      exact k1 ys d v H' S' ws q ⟨fun a o n e nt => r.fg.hh a o n e nt, r.fg.al, r.fg.ft, r.fg.ss, r.fg.sh, r.fg.nw⟩ e3 e4 hd
    refine ⟨t, pt, so _ _ (pure xs ds R hs) _ _ H S0 _ (rep_startM sh tb hS hH hx hd hl) ⟨fun ρ σ H' S' q r => ?_, fun r ρ v σ H' S' q rp pp => ?_, fun _ _ _ _ z => z.elim, fun _ _ _ _ z => z.elim, fun n C H' S' h1 h2 h3 => h1.elim⟩⟩
    · simp only [endsM, endM] at q
      split at q
      · rename_i d ys h1 h0
        cases h1
        exact fin (v := .non) r h0 q (show Dat S' .non .non from .n)
      · exact q.elim
    · simp only [endsM, endM] at q
      split at q
      · rename_i d ys h0
        exact fin rp h0 q pp
      · exact q.elim
end
section
variable {X : Cx} {E : XK} {e a b : Expr} {es : List Expr} {pos : Pos} {w wa wb we : WE} {wl : WL} {k : Nat} {f : Addr} {fd : FuncData} {ps : List Str} {sp : SpecM} {x y : Str} {p p1 mpos : Pos}
def AskM (sp : SpecM) (xs ds : List D) (K : List D → D → Prop) (_ : Tg K) : Prop := sp xs ds K
def wsCallM (i : Nat) (sp : SpecM) (wl : WL) : WS := fun q ρ => match ρ[i]? with
  | some (.own m (.lst xs)) => wl q.ex ρ fun ds => AskM sp xs ds (fun ys _ => q.nx (ρ.set i (.own m (.lst ys)))) ⟨⟩
  | _ => False
/-- f(l, ..) as a statement, l a slot's own list that f changes -/
theorem sd_callM (i : Nat) (G : FnOk X.prog X.w X.K X.mg X.base (L2.CX X.prog X.w) k f fd ps (spOfM sp)) (hr : Room k X.A) (xk : XOk X E) (hg : Gl X x) (hm : X.mg x = some (.ref f)) (hk : PySem.W.keepIn X.K (.ref f) = true) (hb : Binds X.K fd ps [])
    (ha : AD X E es wl) (hN : X.N[i]? = some y := by rfl) (hv : Vis X.env.scope y := by first | exact Or.inl rfl | exact Or.inr (Or.inl rfl) | exact Or.inr (Or.inr rfl)) (hd : (y == ("__debug__" : Str)) = false := by decide) (hcd : (y == ("__classdict__" : Str)) = false := by decide)
    (hdb : (x == ("__debug__" : Str)) = false := by decide) (he : starEach (.Name y p1 :: es) X.env = (false, eval (.Name y p1) X.env) :: starEach es X.env := by rfl) (hpl : (backTo mpos (starEach es X.env)).any (·.1) = false := by rfl)
    (hs : swapsWith (.Call (.Name x p) (.Name y p1 :: es) [] mpos) none pos.line X.env = pure false := by rfl) :
    SD X E (.Expr (.Call (.Name x p) (.Name y p1 :: es) [] mpos) pos) (wsCallM i sp wl) := by
  obtain ⟨t, pt, s⟩ := ha.ex
  have px : Passes (L2.CX X.prog X.w) X E := xk.pass
  refine ⟨_, ps_expr (pe_call G hr hg hm hk hb .nil px (pa_cons (pe_var hN hv hd hcd) pt he) hdb he hpl) hs, fun q ρ hw F σ H S D rp o => ?_⟩
  unfold wsCallM at hw
  split at hw
  · rename_i m xs hi
    obtain ⟨l, u, e, h1, h2, ⟨us, rfl, h3⟩, _⟩ := rp.own hi
    refine ⟨.ref l, e, ?_⟩
    refine s q.ex ρ _ hw F σ H S _ rp (o.exOk rp) fun ds vs H1 S1 q1 g1 hd => ?_
    have rp1 := rp.grow g1
    refine ⟨l, us, vs, xs, ds, S1, _, by rw [List.append_nil], ⟨g1.sh, rp1.fg.tb⟩, by rw [g1.nw l (by rw [h2]; intro z; cases z)]; exact h1, g1.hh.lst h2, Dats.mono g1.ss _ _ h3, hd, q1, fun ys d v H2 S2 ws q2 g2 z1 z2 z3 => ?_⟩
    exact o.nx _ _ H2 S2 q2 (rp1.putM hi e g2 z1 ⟨ws, rfl, z2⟩)
  · exact hw.elim
/-- x = x + l.pop()[c] : ints -/
def wsPopAdd (j i : Nat) (c : Int) : WS := fun q ρ => match ρ[j]?, ρ[i]? with
  | some (.fz (.int n)), some (.own m (.lst xs)) => ∃ ds k, xs.getLast? = some (.tup ds) ∧ atI ds c = some (.int k) ∧ q.nx ((ρ.set i (.own m (.lst xs.dropLast))).set j (.fz (.int (n + k))))
  | _, _ => False
theorem sd_popAdd (j i : Nat) {c : Int} {jj : Nat} {p2 p3 p4 p5 p6 p7 p8 : Pos} (hN : X.N.Nodup) (hj : X.N[j]? = some x := by rfl) (hi : X.N[i]? = some y := by rfl) (hx : Loc X.env.scope x := by first | exact Or.inl rfl | exact Or.inr rfl) (hvx : Vis X.env.scope x := by first | exact Or.inl rfl | exact Or.inr (Or.inl rfl) | exact Or.inr (Or.inr rfl))
    (hvy : Vis X.env.scope y := by first | exact Or.inl rfl | exact Or.inr (Or.inl rfl) | exact Or.inr (Or.inr rfl)) (hd : (x == ("__debug__" : Str)) = false := by decide) (hcd : (x == ("__classdict__" : Str)) = false := by decide) (hdy : (y == ("__debug__" : Str)) = false := by decide) (hcdy : (y == ("__classdict__" : Str)) = false := by decide)
    (hf : X.fn x = true ∨ X.env.scope.names.lookup x = some .local := by first | exact .inl rfl | exact .inr rfl) (hij : i ≠ j := by decide)
    (hbase : attributeBase (.Name y p4) "pop" X.env (eval (.Name y p4) X.env) = eval (.Name y p4) X.env := by rfl) (hline : (p5.endLine == p6.line) = true := by rfl)
    (hs : swapsWith (.BinOp (.Name x p2) .Add (.Subscript (.Call (.Attribute (.Name y p4) "pop" p5) [] [] p6) (.Constant (.int c) jj p7) p8) p3) (some (.Name x p1)) pos.line X.env = pure false := by rfl) :
    SD X E (.Assign [.Name x p1] (.BinOp (.Name x p2) .Add (.Subscript (.Call (.Attribute (.Name y p4) "pop" p5) [] [] p6) (.Constant (.int c) jj p7) p8) p3) pos) (wsPopAdd j i c) := by
  refine ⟨_, ps_set hN hj hx (pe_op op_add (pe_var hj hvx hd hcd) (pe_ix ix_tup (pe_bm0 PySem.F.plainAttrs_list PySem.F.slot_list_pop PySem.F.type_list_pop mt_pop (pe_var hi hvy hdy hcdy) hbase hline) pe_int fun _ _ => rfl)) hs hf, fun q ρ hw F σ H S D rp o => ?_⟩
  unfold wsPopAdd at hw
  split at hw
  · rename_i n m xs ej ei
    obtain ⟨ds, k, e1, e2, q1⟩ := hw
    obtain ⟨v, ev, hv⟩ := rp.fz ej
    unfold Dat at hv
    subst hv
    obtain ⟨l, u, el, h1, h2, ⟨us, rfl, h3⟩, _⟩ := rp.own ei
    have hne : xs ≠ [] := fun z => by rw [z] at e1; cases e1
    have hpos := List.length_pos_iff.mpr hne
    have hlen := h3.len
    have e1' : xs[us.length - 1]? = some (.tup ds) := by rw [hlen, ← List.getLast?_eq_getElem?]; exact e1
    obtain ⟨y, hy, hz⟩ := h3.get e1'
    unfold Dat at hz
    obtain ⟨a, ws, rfl, ra, hw⟩ := hz
    obtain ⟨z, hz1, hz2⟩ := atI_dats hw e2
    unfold Dat at hz2
    subst hz2
    have ne : a ≠ l := fun z => by
      have := rp.sh _ _ ra
      rw [z, h2] at this
      cases this
    refine ⟨.int n, ev, .ref l, el, .inl ⟨rfl, us, .of h2⟩, l, us, .ref a, rfl, rfl, h2, hy, a, ws, c, .int k, rfl, rfl, .of ?_, hz1, n, k, rfl, rfl, ?_⟩
    · rw [upd_ne ne]
      exact rp.sh _ _ ra
    · exact o.nx _ _ _ S q1 ((rp.put (c' := .lst xs.dropLast) (o' := .lst us.dropLast) ei el ⟨_, rfl, h3.dropLast⟩).set .i)
  · exact hw.elim
end
end NL

namespace NL
open PySem PySem.Spec L2
open PyProof.Rows hiding St
variable [KC]
section
variable {X : Cx} {E : XK} {b e : Expr} {w wb : WE} {x : Str} {p pos : Pos}
omit [KC] in
theorem ixN_at {n j : Nat} (hj : j < n) : ixN n (j : Int) = some j := by
  unfold ixN
  simp only [Int.natCast_nonneg, if_true, Int.toNat_natCast]
  exact if_pos (by omega)
theorem get_list : PGet X (rIxL X.K) := by
  intro pins s σ H x y v u Q I rx ry h
  obtain ⟨p, xs, i, z, rfl, rfl, hq, he, q⟩ := h
  cases rx
  obtain ⟨t, rfl⟩ := ry
  obtain ⟨its, r, pl, hz⟩ := I.list hq
  obtain ⟨j, h1, h2, h3, h4, h5⟩ := atI_get he
  obtain ⟨w, ew, rw'⟩ := r.get h2
  have hl := r.length
  have hn := line63
  have fin : EP X pins σ Q w s := ⟨z, H, I, rw', q⟩
  by_cases h0 : 0 ≤ i
  · have hj : i.toNat = j := by
      rw [seqIndex_of h0 h5] at h1
      exact Option.some.inj h1
    exact wpAny_getItem_list pl.isList h0 (by omega) (by rw [hj]; simpa using ew) fin
  · have hj : (i + (its.toArray.size : Int)).toNat = j := by
      rw [seqIndex_neg (by omega) h4] at h1
      rw [List.size_toArray, ← hl]
      exact Option.some.inj h1
    exact wpAny_getItem_list_neg pl.isList (by omega) (by rw [List.size_toArray] <;> omega) (by omega) (by rw [hj]; simpa using ew) fin
/-- l[k] op= e, l a slot's own list -/
def wsAugIx (i : Nat) (g : D → D → (D → Prop) → Prop) (wb w : WE) : WS := fun q ρ => match ρ[i]? with
  | some (.own m (.lst xs)) => wb q.ex ρ fun k => match k with
    | .int k => ∃ (j : Nat) (d : D), k = (j : Int) ∧ xs[j]? = some d ∧ w q.ex ρ fun e => g d e fun z => q.nx (ρ.set i (.own m (.lst (xs.set j z))))
    | _ => False
  | _ => False
theorem sd_augIx (i : Nat) {tpos : Pos} {op : Operator} {g : D → D → (D → Prop) → Prop} (ho : PipD X op g) (hb : ED X E b wb) (he : ED X E e w) (hN : X.N[i]? = some x := by rfl) (hv : Vis X.env.scope x := by first | exact Or.inl rfl | exact Or.inr (Or.inl rfl) | exact Or.inr (Or.inr rfl))
    (hd : (x == ("__debug__" : Str)) = false := by decide) (hcd : (x == ("__classdict__" : Str)) = false := by decide)
    (ha : ∀ ov iv new, augStore b ov iv new = (do holding [new, ov, iv] (setItem ov iv new); release [new, ov, iv] []; pure .next) := by intros; rfl) :
    SD X E (.AugAssign (.Subscript (.Name x p) b tpos) op e pos) (wsAugIx i g wb w) := by
  obtain ⟨t, pe, s⟩ := he.ex
  obtain ⟨tb, pb, sb⟩ := hb.ex
  obtain ⟨r, pi, si⟩ := ho.ex
  refine ⟨_, ps_augS (pe_var hN hv hd hcd) pb get_list pe pi set_list ha, fun q ρ hw F σ H S D rp o => ?_⟩
  unfold wsAugIx at hw
  split at hw
  · rename_i m xs hi
    obtain ⟨l, u, e, z1, z2, ⟨us, rfl, z3⟩, _⟩ := rp.own hi
    refine ⟨.ref l, e, sb q.ex ρ _ hw F σ H S _ rp (o.exOk rp) fun k kv H1 S1 q1 g1 h1 => ?_⟩
    cases k with
    | int k =>
      unfold Dat at h1
      subst h1
      obtain ⟨j, d, rfl, hdj, q1⟩ := q1
      have rp1 := rp.grow g1
      have z31 := Dats.mono g1.ss _ _ z3
      obtain ⟨y, hy, hz⟩ := z31.get hdj
      have hj : j < us.length := (List.getElem?_eq_some_iff.mp hy).1
      refine ⟨l, us, (j : Int), y, rfl, rfl, .of (g1.hh.lst z2), atI_nat hy, ?_⟩
      refine s q.ex ρ _ q1 F σ H1 S1 _ rp1 (o.exOk rp1) fun e' v' H2 S2 q2 g2 h2 => ?_
      refine si d e' _ q2 H2 S2 y v' _ (rp1.grow g2).sh (Dat.mono g2.ss _ _ hz) h2 fun z' y' q3 h3 => ?_
      exact ⟨l, us, (j : Int), j, rfl, rfl, g2.hh.lst (g1.hh.lst z2), ixN_at hj, o.nx _ _ _ S2 q3 ((rp1.grow g2).put hi e ⟨_, rfl, (Dats.mono g2.ss _ _ z31).set j h3⟩)⟩
    | _ => exact q1.elim
  · exact hw.elim
/-- sep.join(texts) -/
def gJoin (a : Str) : D → (D → Prop) → Prop
  | .lst ds, Q => ∃ ys : List Str, ds = ys.map D.str ∧ (ys.map (·.length)).sum + ys.length * a.length ≤ 16777216 ∧ Q (.str (Txt.join a ys))
  | _, _ => False
def wJoin (wa wb : WE) : WE := fun x ρ Q => wa x ρ fun d => match d with
  | .str a => wb x ρ fun e => gJoin a e Q
  | _ => False
theorem ed_join {a : Expr} {wa : WE} {apos : Pos} (ha : BD X E a wa) (hb : BD X E b wb) (hs : starEach [b] X.env = [(false, eval b X.env)] := by rfl) (hbase : attributeBase a "join" X.env (eval a X.env) = eval a X.env := by rfl) (hline : (apos.endLine == pos.line) = true := by rfl) :
    ED X E (.Call (.Attribute a "join" apos) [b] [] pos) (wJoin wa wb) := by
  obtain ⟨ta, pa, sa⟩ := ha.ex
  obtain ⟨tb, pb, sb⟩ := hb.ex
  refine ⟨_, pe_join pa pb hs hbase hline, fun x ρ Q hw F σ H S Q' rp ex k => ?_⟩
  refine sa x ρ _ hw F σ H S _ rp ex fun d u H1 S1 q1 g1 h1 => ?_
  cases d with
  | str a =>
    cases h1.s
    refine ⟨⟨a, rfl⟩, sb x ρ _ q1 F σ H1 S1 _ (rp.grow g1) (ex.grow g1) fun e v H2 S2 q2 g2 h2 => ?_⟩
    cases e with
    | lst ds =>
      obtain ⟨ys, rfl, hz, q2⟩ := q2
      obtain ⟨l, vs, rfl, r, z⟩ := h2
      have := z.ofStrs
      subst this
      exact ⟨a, l, ys, rfl, rfl, .inl (.of r), hz, k _ _ H2 S2 q2 (g1.trans g2) .s⟩
    | _ => exact q2.elim
  | _ => exact q1.elim
end
/-- a promise that is never asked -/
theorem fn_no {P : Program} {w : World} {K : PySem.W.Frag} {mg : Str → Option Value} {base : Heap} {k : Nat} {f : Addr} {fd : FuncData} {ps : List Str} {sp : Spec} (h : ∀ ds x R, ¬ sp ds x R) :
    FnOk P w K mg base (L2.CX P w) k f fd ps (spOf mg sp) :=
  ⟨fun _ _ _ _ ⟨_, _, _, _, _, _, hs, _⟩ => (h _ _ _ hs).elim, fun _ _ _ _ _ _ _ _ _ _ _ _ _ ⟨_, _, _, _, _, _, hs, _⟩ => (h _ _ _ hs).elim⟩
/-! a module's own texts and numbers -/
section
variable {X : Cx} {E : XK} {x : Str} {p : Pos}
theorem ed_globS {s : Str} (hg : Gl X x) (h : ∃ t, X.mg x = some (.str s t)) (hd : (x == ("__debug__" : Str)) = false := by decide) : ED X E (.Name x p) (wC (.str s)) := by
  obtain ⟨t, h⟩ := h
  exact ed_glob (v := .str s) hg h ⟨t, rfl⟩ (fun _ => Dat.s) hd
theorem ed_globI {s : Int} (hg : Gl X x) (h : ∃ t, X.mg x = some (.int s t)) (hd : (x == ("__debug__" : Str)) = false := by decide) : ED X E (.Name x p) (wC (.int s)) := by
  obtain ⟨t, h⟩ := h
  exact ed_glob (v := .int s) hg h ⟨t, rfl⟩ (fun _ => Dat.i) hd
end
/-! sum, any, all over a list -/
section
variable {X : Cx}
def gSum : List D → (D → Prop) → Prop
  | [.lst ds], Q => ∃ ns : List Int, ds = ns.map D.int ∧ Q (.int ns.sum)
  | _, _ => False
theorem cSum (hc : X.calm = true) : CalD X (.builtin "sum") gSum := by
  refine ⟨_, cr_sum hc, fun ds Q h H S vs Q' sh hd k => ?_⟩
  unfold gSum at h
  split at h
  · obtain ⟨ns, rfl, q⟩ := h
    obtain ⟨v, rfl, hz⟩ := hd.one
    obtain ⟨a, ws, rfl, r, z⟩ := hz
    have := z.ofInts
    subst this
    exact ⟨a, ns, rfl, .of r, k _ _ H S q (.refl sh) .i⟩
  · exact h.elim
def gAny : List D → (D → Prop) → Prop
  | [.lst ds], Q => ∃ bs : List Bool, ds = bs.map D.bl ∧ Q (.bl (bs.any id))
  | _, _ => False
theorem cAny (hc : X.calm = true) : CalD X (.builtin "any") gAny := by
  refine ⟨_, cr_any hc, fun ds Q h H S vs Q' sh hd k => ?_⟩
  unfold gAny at h
  split at h
  · obtain ⟨ns, rfl, q⟩ := h
    obtain ⟨v, rfl, hz⟩ := hd.one
    obtain ⟨a, ws, rfl, r, z⟩ := hz
    have := z.ofBls
    subst this
    exact ⟨a, ns, rfl, .of r, k _ _ H S q (.refl sh) .b⟩
  · exact h.elim
def gAll : List D → (D → Prop) → Prop
  | [.lst ds], Q => ∃ bs : List Bool, ds = bs.map D.bl ∧ Q (.bl (bs.all id))
  | _, _ => False
theorem cAll (hc : X.calm = true) : CalD X (.builtin "all") gAll := by
  refine ⟨_, cr_all hc, fun ds Q h H S vs Q' sh hd k => ?_⟩
  unfold gAll at h
  split at h
  · obtain ⟨ns, rfl, q⟩ := h
    obtain ⟨v, rfl, hz⟩ := hd.one
    obtain ⟨a, ws, rfl, r, z⟩ := hz
    have := z.ofBls
    subst this
    exact ⟨a, ns, rfl, .of r, k _ _ H S q (.refl sh) .b⟩
  · exact h.elim
end
end NL

/-! Expressions with an effect: a def that changes a slot's own list and tells a value. -/
namespace NL
open PySem PySem.Spec L2
open PyProof.Rows hiding St
variable [KC]
abbrev WM := XS → Ev → (D → Ev → Prop) → Prop
structure EM (X : Cx) (E : XK) (e : Expr) (w : WM) : Prop where
  ex : ∃ t : TE, PE X e t ∧ ∀ (x : XS) (ρ : Ev) (Q : D → Ev → Prop), w x ρ Q → ∀ (F : Fr) (σ : L2.St) (H S : Hp) (Q' : VK), Rep F ρ σ H S → (∀ ρ H S, Rep F ρ σ H S → ExOk X.mg E x H S) →
    (∀ d v ρ' H' S', Q d ρ' → Rep F ρ' σ H' S' → Same S S' → Dat S' d v → Q' v H') → t σ H Q'
section
variable {X : Cx} {E : XK} {e a b : Expr} {es : List Expr} {pos : Pos} {w wa wb : WE} {wm : WM} {wl : WL} {ws : WS} {k : Nat} {f : Addr} {fd : FuncData} {ps : List Str} {sp : SpecM} {x y : Str} {p p1 mpos : Pos}
def wmCall (i : Nat) (sp : SpecM) (wl : WL) : WM := fun x ρ Q => match ρ[i]? with
  | some (.own m (.lst xs)) => wl x ρ fun ds => AskM sp xs ds (fun ys d => Q d (ρ.set i (.own m (.lst ys)))) ⟨⟩
  | _ => False
theorem em_call (i : Nat) (G : FnOk X.prog X.w X.K X.mg X.base (L2.CX X.prog X.w) k f fd ps (spOfM sp)) (hr : Room k X.A) (xk : XOk X E) (hg : Gl X x) (hm : X.mg x = some (.ref f)) (hk : PySem.W.keepIn X.K (.ref f) = true) (hb : Binds X.K fd ps [])
    (ha : AD X E es wl) (hN : X.N[i]? = some y := by rfl) (hv : Vis X.env.scope y := by first | exact Or.inl rfl | exact Or.inr (Or.inl rfl) | exact Or.inr (Or.inr rfl)) (hd : (y == ("__debug__" : Str)) = false := by decide) (hcd : (y == ("__classdict__" : Str)) = false := by decide)
    (hdb : (x == ("__debug__" : Str)) = false := by decide) (he : starEach (.Name y p1 :: es) X.env = (false, eval (.Name y p1) X.env) :: starEach es X.env := by rfl) (hpl : (backTo mpos (starEach es X.env)).any (·.1) = false := by rfl) :
    EM X E (.Call (.Name x p) (.Name y p1 :: es) [] mpos) (wmCall i sp wl) := by
  obtain ⟨t, pt, s⟩ := ha.ex
  have px : Passes (L2.CX X.prog X.w) X E := xk.pass
  refine ⟨_, pe_call G hr hg hm hk hb .nil px (pa_cons (pe_var hN hv hd hcd) pt he) hdb he hpl, fun x ρ Q hw F σ H S Q' rp ex k => ?_⟩
  unfold wmCall at hw
  split at hw
  · rename_i m xs hi
    obtain ⟨l, u, e, h1, h2, ⟨us, rfl, h3⟩, _⟩ := rp.own hi
    refine ⟨.ref l, e, ?_⟩
    refine s x ρ _ hw F σ H S _ rp (ex _ _ _ rp) fun ds vs H1 S1 q1 g1 hd => ?_
    have rp1 := rp.grow g1
    refine ⟨l, us, vs, xs, ds, S1, _, by rw [List.append_nil], ⟨g1.sh, rp1.fg.tb⟩, by rw [g1.nw l (by rw [h2]; intro z; cases z)]; exact h1, g1.hh.lst h2, Dats.mono g1.ss _ _ h3, hd, q1, fun ys d v H2 S2 ws q2 g2 z1 z2 z3 => ?_⟩
    exact k d v _ H2 S2 q2 (rp1.putM hi e g2 z1 ⟨ws, rfl, z2⟩) (g1.ss.trans g2.ss) z3
  · exact hw.elim
def wmOpL (g : D → D → (D → Prop) → Prop) (wm : WM) (wb : WE) : WM := fun x ρ Q => wm x ρ fun d ρ1 => wb x ρ1 fun e => g d e fun z => Q z ρ1
theorem em_opL {op : Operator} {g : D → D → (D → Prop) → Prop} (ho : OpD X (binaryOp op) g) (ha : EM X E a wm) (hb : ED X E b wb) : EM X E (.BinOp a op b pos) (wmOpL g wm wb) := by
  obtain ⟨r, o, so⟩ := ho.ex
  obtain ⟨ta, pa, sa⟩ := ha.ex
  obtain ⟨tb, pb, sb⟩ := hb.ex
  refine ⟨_, pe_op o pa pb, fun x ρ Q hw F σ H S Q' rp ex k => ?_⟩
  refine sa x ρ _ hw F σ H S _ rp ex fun d u ρ1 H1 S1 q1 r1 e1 h1 => ?_
  refine sb x ρ1 _ q1 F σ H1 S1 _ r1 (ex _ _ _ r1) fun e v H2 S2 q2 g2 h2 => ?_
  refine so d e _ q2 H2 S2 u v Q' g2.sh (BDat.of g2.sh (Dat.mono g2.ss _ _ h1)) (BDat.of g2.sh h2) fun z y H3 S3 q3 g3 h3 => ?_
  exact k z y ρ1 H3 S3 q3 ((r1.grow g2).grow g3) ((e1.trans g2.ss).trans g3.ss) h3
def wmOpR (g : D → D → (D → Prop) → Prop) (wa : WE) (wm : WM) : WM := fun x ρ Q => wa x ρ fun d => wm x ρ fun e ρ1 => g d e fun z => Q z ρ1
theorem em_opR {op : Operator} {g : D → D → (D → Prop) → Prop} (ho : OpD X (binaryOp op) g) (ha : ED X E a wa) (hb : EM X E b wm) : EM X E (.BinOp a op b pos) (wmOpR g wa wm) := by
  obtain ⟨r, o, so⟩ := ho.ex
  obtain ⟨ta, pa, sa⟩ := ha.ex
  obtain ⟨tb, pb, sb⟩ := hb.ex
  refine ⟨_, pe_op o pa pb, fun x ρ Q hw F σ H S Q' rp ex k => ?_⟩
  refine sa x ρ _ hw F σ H S _ rp (ex _ _ _ rp) fun d u H1 S1 q1 g1 h1 => ?_
  refine sb x ρ _ q1 F σ H1 S1 _ (rp.grow g1) ex fun e v ρ1 H2 S2 q2 r2 e2 h2 => ?_
  refine so d e _ q2 H2 S2 u v Q' r2.sh (BDat.of r2.sh (Dat.mono e2 _ _ h1)) (BDat.of r2.sh h2) fun z y H3 S3 q3 g3 h3 => ?_
  exact k z y ρ1 H3 S3 q3 (r2.grow g3) ((g1.ss.trans e2).trans g3.ss) h3
def wmIxR (wa : WE) (wm : WM) : WM := fun x ρ Q => wa x ρ fun d => wm x ρ fun e ρ1 => match d, e with
  | .str z, .int i => z.length ≤ sizeLine ∧ ∃ c, atI z.cps.toList i = some c ∧ Q (.str ⟨#[c]⟩) ρ1
  | .lst xs, .int i => ∃ d, atI xs i = some d ∧ Q d ρ1
  | _, _ => False
theorem em_ixR (ha : ED X E a wa) (hb : EM X E b wm) (hs : PlainIx b := by exact fun _ _ => rfl) : EM X E (.Subscript a b pos) (wmIxR wa wm) := by
  obtain ⟨ta, pa, sa⟩ := ha.ex
  obtain ⟨tb, pb, sb⟩ := hb.ex
  refine ⟨_, pe_ix (ix_str.or ix_list) pa pb hs, fun x ρ Q hw F σ H S Q' rp ex k => ?_⟩
  refine sa x ρ _ hw F σ H S _ rp (ex _ _ _ rp) fun d u H1 S1 q1 g1 h1 => ?_
  refine sb x ρ _ q1 F σ H1 S1 _ (rp.grow g1) ex fun e v ρ1 H2 S2 q2 r2 e2 h2 => ?_
  have h1 := Dat.mono e2 _ _ h1
  split at q2
  · obtain ⟨hz, c, hc, q⟩ := q2
    unfold Dat at h1 h2
    subst h1 h2
    exact .inl ⟨_, _, c, rfl, rfl, hz, hc, k _ _ ρ1 H2 S2 q r2 (g1.ss.trans e2) .s⟩
  · obtain ⟨d, hd, q⟩ := q2
    unfold Dat at h1 h2
    subst h2
    obtain ⟨p, vs, rfl, r, z⟩ := h1
    obtain ⟨y, hy, hz⟩ := atI_dats z hd
    exact .inr ⟨p, vs, _, y, rfl, rfl, .of (r2.sh _ _ r), hy, k _ _ ρ1 H2 S2 q r2 (g1.ss.trans e2) hz⟩
  · exact q2.elim
def wmTup2 (wa : WE) (wm : WM) : WM := fun x ρ Q => wa x ρ fun d => wm x ρ fun e ρ1 => Q (.tup [d, e]) ρ1
theorem em_tup2 {k1} (ha : ED X E a wa) (hb : EM X E b wm) (he : starEach (a :: [b]) X.env = (false, eval a X.env) :: starEach [b] X.env := by rfl) (he2 : starEach (b :: []) X.env = (false, eval b X.env) :: starEach [] X.env := by rfl) :
    EM X E (.Tuple [a, b] k1 pos) (wmTup2 wa wm) := by
  obtain ⟨ta, pa, sa⟩ := ha.ex
  obtain ⟨tb, pb, sb⟩ := hb.ex
  refine ⟨_, pe_tup (pa_cons pa (pa_cons pb pa_nil he2) he), fun x ρ Q hw F σ H S Q' rp ex k => ?_⟩
  refine sa x ρ _ hw F σ H S _ rp (ex _ _ _ rp) fun d u H1 S1 q1 g1 h1 => ?_
  refine sb x ρ _ q1 F σ H1 S1 _ (rp.grow g1) ex fun e v ρ1 H2 S2 q2 r2 e2 h2 => ⟨(by decide : 2 ≤ 16777216), fun p hp => ?_⟩
  obtain ⟨g, y⟩ := lay_tup r2.sh hp (Dats.cons (Dat.mono e2 _ _ h1) (.one h2))
  exact k _ _ ρ1 _ _ q2 (r2.grow g) ((g1.ss.trans e2).trans g.ss) y
def wsSetM (i : Nat) (wm : WM) : WS := fun q ρ => wm q.ex ρ fun d ρ1 => q.nx (ρ1.set i (.fz d))
theorem sd_setM (i : Nat) (hN : X.N.Nodup) (he : EM X E e wm) (hi : X.N[i]? = some x := by rfl) (hx : Loc X.env.scope x := by first | exact Or.inl rfl | exact Or.inr rfl) (hs : swapsWith e (some (.Name x p)) pos.line X.env = pure false := by rfl)
    (hf : X.fn x = true ∨ X.env.scope.names.lookup x = some .local := by first | exact .inl rfl | exact .inr rfl) : SD X E (.Assign [.Name x p] e pos) (wsSetM i wm) := by
  obtain ⟨t, pe, s⟩ := he.ex
  refine ⟨_, ps_set hN hi hx pe hs hf, fun q ρ hw F σ H S D rp o => ?_⟩
  exact s q.ex ρ _ hw F σ H S _ rp (fun _ _ _ r => o.exOk r) fun d v ρ1 H1 S1 q1 r1 e1 h1 => o.nx _ _ H1 S1 q1 (r1.set h1)
/-- l.append(e), l a slot's own list, e with an effect on another one -/
def wsAppM (i : Nat) (wm : WM) : WS := fun q ρ => match ρ[i]? with
  | some (.own _ (.lst _)) => wm q.ex ρ fun d ρ1 => match ρ1[i]? with
    | some (.own m (.lst xs)) => xs.length < sizeLine ∧ q.nx (ρ1.set i (.own m (.lst (xs ++ [d]))))
    | _ => False
  | _ => False
theorem sd_appM (i : Nat) {apos : Pos} (ha : EM X E e wm)
    (hN : X.N[i]? = some x := by rfl) (hv : Vis X.env.scope x := by first | exact Or.inl rfl | exact Or.inr (Or.inl rfl) | exact Or.inr (Or.inr rfl)) (hd : (x == ("__debug__" : Str)) = false := by decide) (hcd : (x == ("__classdict__" : Str)) = false := by decide)
    (hbase : attributeBase (.Name x p) "append" X.env (eval (.Name x p) X.env) = eval (.Name x p) X.env := by rfl)
    (hfew : ((backTo mpos (starEach (e :: []) X.env)).all (fun x => !x.1) && (backToKw mpos (keywordEach [] X.env)).all (fun x => x.1.isSome)
      && decide ((e :: ([] : List Expr)).length + ([] : List Keyword).length + (if ([] : List Keyword).isEmpty then 0 else 1) < 30)) = true := by rfl)
    (hline : (apos.endLine == mpos.line) = true := by rfl) (hst : starEach (e :: []) X.env = (false, eval e X.env) :: starEach [] X.env := by rfl) (hplain : (backTo mpos (starEach ([] : List Expr) X.env)).any (·.1) = false := by rfl)
    (hs : swapsWith (.Call (.Attribute (.Name x p) "append" apos) [e] [] mpos) none pos.line X.env = pure false := by rfl) :
    SD X E (.Expr (.Call (.Attribute (.Name x p) "append" apos) [e] [] mpos) pos) (wsAppM i wm) := by
  obtain ⟨t, pt, s⟩ := ha.ex
  refine ⟨_, ps_expr (pe_bm PySem.F.plainAttrs_list PySem.F.slot_list_append PySem.F.type_list_append mt_append (pe_var hN hv hd hcd) (pa_cons pt pa_nil hst) hbase hfew hline hst hplain) hs, fun q ρ hw F σ H S D rp o => ?_⟩
  unfold wsAppM at hw
  split at hw
  case h_2 => exact hw.elim
  rename_i m0 xs0 hi0
  obtain ⟨l, u, e, h1, h2, ⟨us, rfl, h3⟩, _⟩ := rp.own hi0
  refine ⟨.ref l, e, .inl ⟨rfl, _, .of h2⟩, ?_⟩
  refine s q.ex ρ _ hw F σ H S _ rp (fun _ _ _ r => o.exOk r) fun d v ρ1 H1 S1 q1 r1 e1 hd1 => ?_
  split at q1
  · rename_i m xs hi
    obtain ⟨l', u', e', z1, z2, ⟨us', rfl, z3⟩, _⟩ := r1.own hi
    have : l' = l := by
      rw [e] at e'
      cases e'
      rfl
    subst this
    exact ⟨l', us', v, rfl, rfl, z2, by rw [z3.len]; exact q1.1, o.nx _ _ _ S1 q1.2 (r1.put (o' := .lst (us' ++ [v])) hi e' ⟨_, rfl, z3.app (.one hd1)⟩)⟩
  · exact q1.elim
/-- for x in range(e), e with an effect -/
def wForM (wm : WM) (g : WG) (wb : WS) : WS := fun q ρ => wm q.ex ρ fun d ρ1 => match d with
  | .int n => smallI n ∧ loopL g wb q (rngD 0 1 n.toNat) ρ1
  | _ => False
theorem sd_forM {tg : Expr} {is : List Nat} {g : WG} {body : List Stmt} (hg0 : Gl X "range") (hm0 : X.mg "range" = none) (xk : XOk X E) (hc : X.calm = true) (ha : EM X E a wm) (hg : GD X tg is g) (hb : SDs X E body ws)
    (hs1 : starEach [a] X.env = [(false, eval a X.env)] := by rfl) (he : starEach (a :: []) X.env = (false, eval a X.env) :: starEach [] X.env := by rfl)
    (hs : ∀ x, foldedSetIterable (.Call (.Name "range" p) [a] [] mpos) X.env x = pure x := by intro _; rfl) :
    SD X E (.For tg (.Call (.Name "range" p) [a] [] mpos) body [] pos) (wForM wm g ws) := by
  obtain ⟨ti, pti, si⟩ := ha.ex
  obtain ⟨tg, pg, sg⟩ := hg.ex
  obtain ⟨tb, pb, sb⟩ := hb.ex
  refine ⟨_, ps_for xk.own hc (pi_range1 hg0 hm0 (pa_cons pti pa_nil he) hs1) pg pb hs, fun q ρ0 hw F σ H S D rp o => ?_⟩
  refine si q.ex ρ0 _ hw F σ H S _ rp (fun _ _ _ r => o.exOk r) fun d v ρ H1 S1 q1 rp1 e1 h1 => ?_
  cases d with
  | int n =>
    unfold Dat at h1
    subst h1
    obtain ⟨⟨n1, n2⟩, q1⟩ := q1
    refine ⟨n, rfl, n1, n2, ?_⟩
    have hJ : ItOk (Itr 0 n.toNat) S1 (rngD 0 1 n.toNat) := it_rng
    generalize rngD 0 1 n.toNat = ds at q1 hJ
    have ss1 := rp1.fg.ss
    have nw1 := rp1.fg.nw
    let W : Nat → Nat → L2.St → Hp → Prop := fun i m σ H => m = ds.length - i ∧ i ≤ ds.length ∧ ∃ ρ S, Rep { F with S0 := S1 } ρ σ H S ∧ loopL g ws q (ds.drop i) ρ
    refine ⟨W, ⟨ds.length, by simp, Nat.zero_le _, ρ, S1, rep_to rp1, q1⟩, ?_⟩
    rintro i m σ2 H2 ⟨rfl, hi, ρ2, S2, r2, hl⟩
    rcases Nat.lt_or_ge i ds.length with hlt | hge
    · obtain ⟨d, hdi⟩ : ∃ d, ds[i]? = some d := ⟨_, List.getElem?_eq_getElem hlt⟩
      obtain ⟨go, yl⟩ := (hJ i H2 S2 r2.fg.ss r2.fg.sh).1 d hdi
      have hdrop : ds.drop i = d :: ds.drop (i + 1) := by
        rw [List.drop_eq_getElem_cons hlt]
        congr 1
        rw [List.getElem?_eq_getElem hlt] at hdi
        exact Option.some.inj hdi
      rw [hdrop] at hl
      refine .inr ⟨go, W (i + 1) (ds.length - (i + 1)), fun σ' H' h => ⟨_, by omega, h⟩, fun x H' y => ?_⟩
      obtain ⟨S', g', dx⟩ := yl x H' y
      refine sg d ρ2 _ hl { F with S0 := S1 } σ2 H' S' x _ (r2.grow g') dx fun ρ3 σ3 h3 r3 _ => ?_
      refine sb _ ρ3 h3 { F with S0 := S1 } σ3 H' S' _ r3 ⟨fun ρ4 σ4 H4 S4 q4 r4 => ⟨rfl, hlt, ρ4, S4, r4, q4⟩, fun r ρ4 v σ4 H4 S4 q4 r4 p4 => o.rt r ρ4 v σ4 H4 S4 q4 (rep_in r4 ss1 nw1) p4,
        fun ρ4 σ4 H4 S4 q4 r4 => o.nx ρ4 σ4 H4 S4 q4 (rep_in r4 ss1 nw1), fun ρ4 σ4 H4 S4 q4 r4 => ⟨rfl, hlt, ρ4, S4, r4, q4⟩, fun n C H4 S4 h1 h2 h3 => o.ex n C H4 S4 h1 h2 (fg_in h3 ss1 nw1)⟩
    · have e : i = ds.length := by omega
      subst e
      rw [List.drop_length] at hl
      exact .inl ⟨(hJ _ H2 S2 r2.fg.ss r2.fg.sh).2 (Nat.le_refl _), o.nx ρ2 σ2 H2 S2 hl (rep_in r2 ss1 nw1)⟩
  | _ => exact q1.elim
end
end NL

namespace NL
open PySem PySem.Spec L2
open PyProof.Rows hiding St

/-! ### the law's own promise -/
def SP_law : Spec := fun ds _ R => ∃ ns, ds = [.scr ns] ∧ ns.length ≤ 63 ∧ R (.val (.bl true))
theorem len_law (ds : List D) (x : XS) (R : Rt → Prop) (h : SP_law ds x R) : ds.length = ["_law_script"].length := by
  obtain ⟨ns, rfl, _⟩ := h
  rfl
def spLaw (K : PySem.W.Frag) : Sp := fun vs H Q _ => ∃ (a : Addr) (ns : List Int), vs = [.ref a] ∧ SqL K H a (ns.map V.int) ∧ ns.length ≤ 63 ∧ ∀ H', Q (.bl true) H'
theorem law_in {K : PySem.W.Frag} {H : Hp} {a : Addr} {ns : List Int} (hl : ns.length ≤ 63) (hS : SqL K H a (ns.map V.int)) : spLaw K [.ref a] H (fun v _ => v = .bl true) fun _ _ _ => False :=
  ⟨a, ns, rfl, hS, hl, fun _ => rfl⟩
theorem law_cx {P : Program} {w : World} {H : Hp} {s s' : Shared} {e : Value} (h : L2.CX P w [] H s (fun _ _ _ => False) e s') : False := by
  obtain ⟨_, _, _, _, _, _, _, _, _, _, _, _, z⟩ := h
  exact z
theorem law_F {P : Program} {w : World} {K : PySem.W.Frag} {mg : Str → Option Value} {fl : Addr} {k : Nat} {x : Str}
    {ca : Str → Addr}
    (h : ∃ fd : FuncData, (∀ (s : Shared) (v : Value), BindsTo s fd ⟨[v], []⟩ [(x, v)]) ∧ ∀ base : Heap, K.In base → base.Ns mainGlobals mg → FnOk P w K mg base (L2.CX P w) k fl fd [x] (@spOf ⟨K, [], ca⟩ mg SP_law)) :
    ∃ fd : FuncData, (∀ (s : Shared) (v : Value), BindsTo s fd ⟨[v], []⟩ [(x, v)]) ∧ ∀ base : Heap, K.In base → base.Ns mainGlobals mg → FnOk P w K mg base (L2.CX P w) k fl fd [x] (spLaw K) := by
  obtain ⟨fd, h1, h2⟩ := h
  refine ⟨fd, h1, fun base b1 b2 => (h2 base b1 b2).imp fun vs H Q E h => ?_⟩
  obtain ⟨a, ns, rfl, hS, hl, q⟩ := h
  letI : KC := ⟨K, [], ca⟩
  refine ⟨[.scr ns], H, fun _ => False, fun r => r = .val (.bl true), ⟨.refl _, fun _ h => by cases h⟩, .one ?_, ⟨ns, rfl, hl, rfl⟩, fun r v H' S' e _ h => ?_, fun _ _ _ _ z => z.elim⟩
  · unfold Dat
    exact ⟨a, rfl, hS⟩
  · subst e
    have h' : Dat S' (.bl true) v := h
    unfold Dat at h'
    subst h'
    exact q H'
end NL

namespace NL
open PySem PySem.Spec L2
open PyProof.Rows hiding St

/-! ### typed data -/
abbrev Pc := Str × Int
def dP (p : Pc) : D := .tup [.str p.1, .int p.2]
def dC (c : List Pc) : D := .lst (c.map dP)
def dI (c : List Int) : D := .lst (c.map D.int)
def rng (lo c : Int) (n : Nat) : List Int := (List.range n).map fun (i : Nat) => lo + (i : Int) * c
theorem rngD_eq {lo c : Int} {n : Nat} : rngD lo c n = (rng lo c n).map D.int := by
  unfold rngD rng
  rw [List.map_map]
  rfl
theorem mem_rng {lo c k : Int} {n : Nat} (h : k ∈ rng lo c n) : ∃ i : Nat, i < n ∧ k = lo + (i : Int) * c := by
  unfold rng at h
  obtain ⟨i, hi, e⟩ := List.mem_map.mp h
  exact ⟨i, List.mem_range.mp hi, e.symm⟩
theorem rng_len {lo c : Int} {n : Nat} : (rng lo c n).length = n := by simp [rng]
theorem rng0 {lo c : Int} : rng lo c 0 = [] := rfl
theorem rng_succ {lo c : Int} {n : Nat} : rng lo c (n + 1) = lo :: rng (lo + c) c n := by
  unfold rng
  rw [List.range_succ_eq_map, List.map_cons, List.map_map]
  congr 1
  · simp
  · apply List.map_congr_left
    intro i _
    simp only [Function.comp, Int.natCast_succ]
    rw [Int.add_mul]
    omega
theorem kit1 : kitB "list" "list" = some true := by decide +kernel
theorem kit2 : kitB "tuple" "tuple" = some true := by decide +kernel
theorem kit3 : kitB "str" "str" = some true := by decide +kernel
theorem kit4 : kitB "int" "int" = some true := by decide +kernel
theorem kit5 : kitB "int" "bool" = some false := by decide +kernel
theorem kit6 : kitB "bool" "bool" = some true := by decide +kernel
theorem kit7 : kitB "bool" "int" = some true := by decide +kernel
theorem kit8 : kitB "str" "list" = some false := by decide +kernel
theorem kit9 : kitB "NoneType" "list" = some false := by decide +kernel
theorem kit10 : kitB "NoneType" "int" = some false := by decide +kernel
theorem kit11 : kitB "NoneType" "str" = some false := by decide +kernel
theorem kit12 : kitB "NoneType" "tuple" = some false := by decide +kernel
theorem kit13 : kitB "int" "str" = some false := by decide +kernel
theorem kit14 : kitB "int" "list" = some false := by decide +kernel
theorem kit15 : kitB "int" "tuple" = some false := by decide +kernel
theorem kit16 : kitB "bool" "str" = some false := by decide +kernel
theorem kit17 : kitB "bool" "list" = some false := by decide +kernel
theorem kit18 : kitB "bool" "tuple" = some false := by decide +kernel
theorem kit19 : kitB "str" "int" = some false := by decide +kernel
theorem kit20 : kitB "str" "bool" = some false := by decide +kernel
theorem kit21 : kitB "str" "tuple" = some false := by decide +kernel
theorem kit22 : kitB "list" "str" = some false := by decide +kernel
theorem kit23 : kitB "list" "int" = some false := by decide +kernel
theorem kit24 : kitB "list" "bool" = some false := by decide +kernel
theorem kit25 : kitB "list" "tuple" = some false := by decide +kernel
theorem kit26 : kitB "tuple" "str" = some false := by decide +kernel
theorem kit27 : kitB "tuple" "int" = some false := by decide +kernel
theorem kit28 : kitB "tuple" "bool" = some false := by decide +kernel
theorem kit29 : kitB "tuple" "list" = some false := by decide +kernel
theorem kit30 : kitB "NoneType" "bool" = some false := by decide +kernel
theorem kit31 : kitB "dict" "str" = some false := by decide +kernel
theorem kit32 : kitB "dict" "list" = some false := by decide +kernel
theorem kit33 : kitB "dict" "tuple" = some false := by decide +kernel
theorem kit34 : kitB "dict" "int" = some false := by decide +kernel
theorem kit35 : kitB "dict" "bool" = some false := by decide +kernel

theorem castN (n : Nat) : ((no_index (OfNat.ofNat n) : Nat) : Int) = OfNat.ofNat n := rfl
/-! ### places -/
theorem atI_in {α : Type} {xs : List α} {i : Int} (h0 : 0 ≤ i) (h : i < xs.length) : ∃ a, atI xs i = some a ∧ a ∈ xs := by
  have hi : i.toNat < xs.length := by omega
  refine ⟨xs[i.toNat], ?_, List.getElem_mem hi⟩
  have := atI_nat (List.getElem?_eq_getElem hi)
  rw [Int.toNat_of_nonneg h0] at this
  exact this
theorem atI_at {α : Type} {xs : List α} {i : Int} {j : Nat} (h : i = j) (hj : j < xs.length) : atI xs i = some xs[j] := by
  rw [h]
  exact atI_nat (List.getElem?_eq_getElem hj)
theorem atI_neg1 {α : Type} {xs : List α} : atI xs (-1) = xs.getLast? := by
  rcases List.eq_nil_or_concat xs with h | ⟨r, a, h⟩
  · rw [h]; rfl
  · rw [h]
    have := atI_last r a
    simpa using this
theorem atI_rev1 {α : Type} {xs : List α} : atI xs.reverse (-1) = xs.head? := by
  rw [atI_neg1, List.getLast?_reverse]

/-! ### texts by their signs -/
def tx (l : List Nat) : Str := ⟨l.toArray⟩
theorem tx_cps {l : List Nat} : (tx l).cps.toList = l := by simp [tx]
theorem tx_len {l : List Nat} : (tx l).length = l.length := by
  show l.toArray.size = _
  simp
theorem tx_app {a b : List Nat} : tx a ++ tx b = tx (a ++ b) := by
  show (⟨a.toArray ++ b.toArray⟩ : Str) = ⟨_⟩
  simp
theorem tx_of (s : Str) : s = tx s.cps.toList := by
  cases s
  simp [tx]
theorem tx_inj {a b : List Nat} : tx a = tx b ↔ a = b := by
  constructor
  · intro h
    rw [← tx_cps (l := a), h, tx_cps]
  · rintro rfl; rfl
theorem tx_one {c : Nat} : (⟨#[c]⟩ : Str) = tx [c] := rfl
theorem tx_nil : (⟨#[]⟩ : Str) = tx [] := rfl
theorem tx_cut {l : List Nat} {lo hi : Option Int} : cutS (tx l) lo hi = tx (cut l lo hi) := by
  unfold cutS cut
  rw [tx_cps, tx_len]
  rfl
theorem tx_signs {l : List Nat} : signs (tx l) = l.map fun c => .str (tx [c]) := by
  unfold signs
  rw [tx_cps]
  rfl
theorem tx_rep {n : Nat} {l : List Nat} : srep n (tx l) = tx (List.replicate n l).flatten := by
  unfold srep
  rw [tx_cps]
  rfl
theorem lit_empty : Str.ofString "" = tx [] := by decide +kernel
theorem az_cps : (Str.ofString "abcdefghijklmnopqrstuvwxyz").cps.toList = (List.range 26).map fun i => 97 + i := by decide +kernel
theorem abcz_cps : (Str.ofString "abcz").cps.toList = [97, 98, 99, 122] := by decide +kernel
theorem tx_ok {l : List Nat} (h : ∀ c ∈ l, 97 ≤ c ∧ c ≤ 122) : PyData.strOk (tx l) = true := by
  simp only [PyData.strOk, tx, List.all_toArray, List.all_eq_true]
  intro c hc
  have := h c hc
  simp
  omega
/-! ### products that are small -/
theorem log2_lt {i : Int} {n : Nat} (h : i.natAbs < 2 ^ (n + 1)) : i.natAbs.log2 ≤ n := by
  rcases Nat.eq_zero_or_pos i.natAbs with z | z
  · rw [z]; simp
  · have := (Nat.log2_lt (by omega)).mpr h
    omega
theorem mulWn {i j : Int} {a b : Nat} (h1 : i.natAbs < 2 ^ (a + 1)) (h2 : j.natAbs < 2 ^ (b + 1)) (h : a + b < 1000000) : CMulW i j := by
  have x := log2_lt h1
  have y := log2_lt h2
  show _ + _ < 1000000
  omega
theorem mulW {i j : Int} (h1 : i.natAbs < 2 ^ 201) (h2 : j.natAbs < 2 ^ 201) : CMulW i j := by
  have a := log2_lt h1
  have b := log2_lt h2
  show _ + _ < 1000000
  omega
theorem divW {i j : Int} (h0 : 0 < j) (h2 : j.natAbs < 2 ^ 201) : CDivW i j := ⟨h0, by have := log2_lt h2; omega⟩

theorem divW_eq {i j : Int} (h0 : 0 < j) (h2 : j < 1606938044258990275541962092341162602522202993782792835301376) : CDivW i j = True := by
  have e : (2 : Nat) ^ 201 = 3213876088517980551083924184682325205044405987565585670602752 := by decide
  exact eq_true (divW h0 (by omega))
theorem mulW_eq {i j : Int} (h0 : -1606938044258990275541962092341162602522202993782792835301376 < i) (h1 : i < 1606938044258990275541962092341162602522202993782792835301376) (h2 : -1606938044258990275541962092341162602522202993782792835301376 < j) (h3 : j < 1606938044258990275541962092341162602522202993782792835301376) : CMulW i j = True := by
  have e : (2 : Nat) ^ 201 = 3213876088517980551083924184682325205044405987565585670602752 := by decide
  exact eq_true (mulW (by omega) (by omega))
theorem divWs {i j : Int} (h0 : 0 < j) (h2 : j < 1000000000000) : CDivW i j := of_eq_true (divW_eq h0 (by omega))
/-! ### data that is told apart -/
def OkC (c : List Pc) : Prop := ∀ p ∈ c, PyData.strOk p.1 = true
theorem nb_dP {p : Pc} {n : Nat} (h : PyData.strOk p.1 = true) : nb (n + 2) (dP p) = true := by simp [dP, nb, h]
theorem nb_dC {c : List Pc} {n : Nat} (h : OkC c) : nb (n + 3) (dC c) = true := by
  simp only [dC, nb, List.all_map, List.all_eq_true]
  exact fun p hp => nb_dP (h p hp)
theorem dP_inj {p q : Pc} : dP p = dP q ↔ p = q := by
  constructor
  · intro h
    simp [dP] at h
    exact Prod.ext h.1 h.2
  · rintro rfl; rfl
theorem map_inj {α β : Type} {f : α → β} (hf : ∀ a b, f a = f b ↔ a = b) : ∀ {xs ys : List α}, xs.map f = ys.map f ↔ xs = ys
  | [], [] => by simp
  | [], _ :: _ => by simp
  | _ :: _, [] => by simp
  | x :: xs, y :: ys => by
    simp only [List.map_cons, List.cons.injEq, hf, map_inj hf]
theorem dC_inj {a b : List Pc} : dC a = dC b ↔ a = b := by
  simp only [dC, D.lst.injEq]
  exact map_inj fun _ _ => dP_inj
theorem deq_dec {a b : D} {p : Prop} [Decidable p] (h : a = b ↔ p) : deq a b = decide p := by
  unfold deq
  rw [Bool.eq_iff_iff]
  simp [h]
theorem deq_dC {a b : List Pc} : deq (dC a) (dC b) = decide (a = b) := deq_dec dC_inj
theorem map_snocI {xs : List Int} {y : Int} : List.map D.int xs ++ [D.int y] = List.map D.int (xs ++ [y]) := by simp
theorem deqC {a b : List Pc} : deq (.lst (a.map dP)) (.lst (b.map dP)) = decide (a = b) := deq_dC
theorem deq_self {d : D} : deq d d = true := by simp [deq]
theorem nbC {c : List Pc} (h : OkC c) : nb 20 (.lst (c.map dP)) = true := nb_dC (n := 17) h
theorem rep_map {α β : Type} {f : α → β} {n : Nat} {xs : List α} : (List.replicate n (xs.map f)).flatten = ((List.replicate n xs).flatten).map f := by
  induction n with
  | zero => rfl
  | succ n ih => simp only [List.replicate_succ, List.flatten_cons, ih, List.map_append]
theorem rep_len {α : Type} {n : Nat} {xs : List α} : (List.replicate n xs).flatten.length = n * xs.length := by
  induction n with
  | zero => simp
  | succ n ih => rw [List.replicate_succ, List.flatten_cons, List.length_append, ih, Nat.succ_mul]; omega
theorem rep_mem {α : Type} {n : Nat} {xs : List α} {a : α} (h : a ∈ (List.replicate n xs).flatten) : a ∈ xs := by
  obtain ⟨l, hl, ha⟩ := List.mem_flatten.mp h
  rw [List.mem_replicate] at hl
  rw [hl.2] at ha
  exact ha
theorem nls_dP : ∀ {c : List Pc}, nls (c.map dP) = true
  | [] => rfl
  | p :: c => by simp [nls, nl, dP, nls_dP]
/-- one letter -/
def isNail (s : Str) : Prop := ∃ ch, s = tx [ch] ∧ 97 ≤ ch ∧ ch ≤ 122
theorem isNail.ok {s : Str} (h : isNail s) : PyData.strOk s = true := by
  obtain ⟨ch, rfl, h1, h2⟩ := h
  simp [PyData.strOk, tx]
  omega
/-- a good piece: a nail, turns of at most so many -/
def Gd (b : Int) (p : Pc) : Prop := isNail p.1 ∧ -b ≤ p.2 ∧ p.2 ≤ b
def Gds (b : Int) (c : List Pc) : Prop := ∀ p ∈ c, Gd b p
theorem Gds.ok {b : Int} {c : List Pc} (h : Gds b c) : OkC c := fun p hp => (h p hp).1.ok
theorem Gds.nil {b : Int} : Gds b [] := fun _ h => by cases h
theorem Gds.app {b : Int} {c d : List Pc} (h : Gds b c) (g : Gds b d) : Gds b (c ++ d) := fun p hp => (List.mem_append.mp hp).elim (h p) (g p)
theorem Gds.sub {b : Int} {c d : List Pc} (h : Gds b c) (g : ∀ p ∈ d, p ∈ c) : Gds b d := fun p hp => h p (g p hp)
theorem Gds.mono {b b' : Int} {c : List Pc} (h : Gds b c) (g : b ≤ b') : Gds b' c := fun p hp => ⟨(h p hp).1, by have := (h p hp).2; omega, by have := (h p hp).2; omega⟩
theorem cut_mem {α : Type} {xs : List α} {l h : Option Int} {a : α} (m : a ∈ cut xs l h) : a ∈ xs := List.mem_of_mem_drop (List.mem_of_mem_take m)
theorem cut_len {α : Type} {xs : List α} {l h : Option Int} : (cut xs l h).length ≤ xs.length := by
  unfold cut
  rw [List.length_take, List.length_drop]
  omega
theorem cut_to {α : Type} {xs : List α} {n : Int} (h0 : 0 ≤ n) : cut xs none (some n) = xs.take n.toNat := by
  unfold cut
  rw [HT.sIx_none]
  have e : HT.sIx xs.length xs.length (some n) = min n.toNat xs.length := by
    have := HT.sIx_nat xs.length xs.length n.toNat
    rw [Int.toNat_of_nonneg h0] at this
    exact this
  rw [e, List.drop_zero, Nat.sub_zero]
  rcases Nat.le_total n.toNat xs.length with z | z
  · rw [Nat.min_eq_left z]
  · rw [Nat.min_eq_right z, List.take_of_length_le (Nat.le_refl _), List.take_of_length_le z]
theorem cut_from {α : Type} {xs : List α} {n : Int} (h0 : 0 ≤ n) : cut xs (some n) none = xs.drop n.toNat := by
  unfold cut
  rw [HT.sIx_none]
  have e : HT.sIx xs.length 0 (some n) = min n.toNat xs.length := by
    have := HT.sIx_nat xs.length 0 n.toNat
    rw [Int.toNat_of_nonneg h0] at this
    exact this
  rw [e]
  rcases Nat.le_total n.toNat xs.length with z | z
  · rw [Nat.min_eq_left z, List.take_of_length_le (by rw [List.length_drop]; omega)]
  · rw [Nat.min_eq_right z, List.drop_of_length_le (Nat.le_refl _), List.drop_of_length_le z]
    simp
theorem cut_last {α : Type} {xs : List α} {y : α} : cut (xs ++ [y]) (some (-1)) none = [y] := by
  unfold cut
  rw [HT.sIx_none]
  have e : HT.sIx (xs ++ [y]).length 0 (some (-1)) = xs.length := by
    show (if (-1 : Int) < 0 then ((-1 : Int) + ((xs ++ [y]).length : Int)).toNat else min (-1 : Int).toNat (xs ++ [y]).length) = _
    rw [if_pos (by decide), List.length_append]
    simp
    omega
  rw [e]
  simp
theorem cut_nil {α : Type} {lo hi : Option Int} : cut ([] : List α) lo hi = [] := by simp [cut]
theorem cut_fromTo {α : Type} {xs : List α} {m n : Int} (h0 : 0 ≤ m) (h1 : 0 ≤ n) : cut xs (some m) (some n) = (xs.take n.toNat).drop m.toNat := by
  unfold cut
  have e : HT.sIx xs.length 0 (some m) = min m.toNat xs.length := by
    have := HT.sIx_nat xs.length 0 m.toNat
    rw [Int.toNat_of_nonneg h0] at this
    exact this
  have e2 : HT.sIx xs.length xs.length (some n) = min n.toNat xs.length := by
    have := HT.sIx_nat xs.length xs.length n.toNat
    rw [Int.toNat_of_nonneg h1] at this
    exact this
  rw [e, e2, List.drop_take]
  apply List.ext_getElem?
  intro i
  rw [List.getElem?_take, List.getElem?_take, List.getElem?_drop, List.getElem?_drop]
  rcases Nat.le_total m.toNat xs.length with z | z
  · rw [Nat.min_eq_left z]
    rcases Nat.le_total n.toNat xs.length with z2 | z2
    · rw [Nat.min_eq_left z2]
    · rw [Nat.min_eq_right z2]
      split <;> split <;> first | rfl | omega | (rw [List.getElem?_eq_none (by omega)]) | (symm; rw [List.getElem?_eq_none (by omega)])
  · rw [Nat.min_eq_right z, List.getElem?_eq_none (by omega : xs.length ≤ xs.length + i), List.getElem?_eq_none (by omega : xs.length ≤ m.toNat + i)]
    split <;> split <;> rfl
/-- a comprehension that takes each item to one -/
theorem compL_map {α : Type} {g : WG} {we : WE} {ρ : Ev} {Q : List D → Prop} (f : α → D) (h : α → D) (he : ∀ a (Q' : D → Prop), Q' (h a) → g (f a) ρ fun ρ2 => we X0 ρ2 Q') : ∀ (xs : List α) (acc : List D), acc.length + xs.length ≤ sizeLine → Q (acc ++ xs.map h) → compL g wtYes we ρ Q (xs.map f) acc
  | [], acc, _, q => by simpa [compL] using q
  | a :: xs, acc, hl, q => by
    simp only [List.map_cons, compL, wtYes, Br_true]
    refine he a _ ⟨by simp at hl; omega, compL_map f h he xs (acc ++ [h a]) (by simp at hl ⊢; omega) (by simpa using q)⟩
theorem compL_map' {α : Type} {g : WG} {we : WE} {ρ : Ev} {Q : List D → Prop} (f : α → D) (h : α → D) : ∀ (xs : List α) (acc : List D), (∀ a ∈ xs, ∀ (Q' : D → Prop), Q' (h a) → g (f a) ρ fun ρ2 => we X0 ρ2 Q') → acc.length + xs.length ≤ sizeLine → Q (acc ++ xs.map h) → compL g wtYes we ρ Q (xs.map f) acc
  | [], acc, _, _, q => by simpa [compL] using q
  | a :: xs, acc, he, hl, q => by
    simp only [List.map_cons, compL, wtYes, Br_true]
    refine he a (by simp) _ ⟨by simp at hl; omega, compL_map' f h xs (acc ++ [h a]) (fun b hb => he b (by simp [hb])) (by simp at hl ⊢; omega) (by simpa using q)⟩
theorem compL_filter {α : Type} {g : WG} {wt : WT} {we : WE} {ρ : Ev} {Q : List D → Prop} (f : α → D) (h : α → D) (t : α → Bool) : ∀ (xs : List α) (acc : List D), (∀ a ∈ xs, ∀ (Q' : Bool → Ev → Prop), (∀ ρ2, (∀ (Q2 : D → Prop), Q2 (h a) → we X0 ρ2 Q2) → Q' (t a) ρ2) → g (f a) ρ fun ρ2 => wt X0 ρ2 fun b => Q' b ρ2) → acc.length + xs.length ≤ sizeLine → Q (acc ++ (xs.filter t).map h) → compL g wt we ρ Q (xs.map f) acc
  | [], acc, _, _, q => by simpa [compL] using q
  | a :: xs, acc, he, hl, q => by
    simp only [List.map_cons, compL]
    refine he a (by simp) (fun b ρ2 => Br b (we X0 ρ2 fun y => acc.length < sizeLine ∧ compL g wt we ρ Q (xs.map f) (acc ++ [y])) (compL g wt we ρ Q (xs.map f) acc) ⟨⟩ ⟨⟩) fun ρ2 hw => ?_
    have ih := fun acc => compL_filter (Q := Q) f h t xs acc (fun b hb => he b (by simp [hb]))
    cases ht : t a with
    | true =>
      rw [Br_true]
      refine hw _ ⟨by simp at hl; omega, ih _ (by simp at hl ⊢; omega) ?_⟩
      rw [List.filter_cons, if_pos ht] at q
      simpa using q
    | false =>
      rw [Br_false]
      refine ih _ (by simp at hl ⊢; omega) ?_
      rw [List.filter_cons, if_neg (by simp [ht])] at q
      exact q
/-- a loop, by a word over what is left and the slots -/
theorem loop_ind {α S : Type} {g : WG} {wb : WS} {q : DEnds} (f : α → D) (env : S → Ev) (P : List α → S → Prop) (hnil : ∀ s, P [] s → q.nx (env s))
    (hstep : ∀ a r s (L : Ev → Prop), P (a :: r) s → (∀ s', P r s' → L (env s')) → g (f a) (env s) fun ρ1 => wb ⟨L, q.rt, q.nx, L, q.ex⟩ ρ1) : ∀ (xs : List α) (s0 : S), P xs s0 → loopL g wb q (xs.map f) (env s0)
  | [], s, h => hnil s h
  | a :: r, s, h => hstep a r s _ h fun s' h' => loop_ind f env P hnil hstep r s' h'
/-- while, by a word over the slots and a measure -/
theorem while_ind {S : Type} {wt : WT} {wb : WS} {q : DEnds} (env : S → Ev) (P : Nat → S → Prop)
    (hstep : ∀ m s (L : Ev → Prop), P m s → (∀ m' s', m' < m → P m' s' → L (env s')) → wt q.ex (env s) fun b => Br b (wb { q with nx := L, ct := L, bk := q.nx } (env s)) (q.nx (env s)) ⟨⟩ ⟨⟩)
    (m0 : Nat) (s0 : S) (h0 : P m0 s0) : wWhile wt wb q (env s0) := by
  refine ⟨fun m ρ => ∃ s, ρ = env s ∧ P m s, ⟨m0, s0, rfl, h0⟩, ?_⟩
  rintro m ρ ⟨s, rfl, h⟩
  exact hstep m s (fun ρ' => ∃ m', m' < m ∧ ∃ s, ρ' = env s ∧ P m' s) h fun m' s' hm hp => ⟨m', hm, s', rfl, hp⟩
def lawSign (s : Str) (i : Int) : Str := tx [(atI s.cps.toList i).getD 97]
theorem lawSign_at {s : Str} {i : Int} (h0 : 0 ≤ i) (h1 : i < s.cps.toList.length) (hs : ∀ c ∈ s.cps.toList, 97 ≤ c ∧ c ≤ 122) : ∃ c, atI s.cps.toList i = some c ∧ tx [c] = lawSign s i ∧ isNail (lawSign s i) := by
  obtain ⟨c, e, m⟩ := atI_in h0 h1
  refine ⟨c, e, ?_, ?_⟩
  · unfold lawSign; rw [e]; rfl
  · refine ⟨c, ?_, hs c m⟩
    unfold lawSign; rw [e]; rfl
theorem abcz_ok : ∀ c ∈ ("abcz" : Str).cps.toList, 97 ≤ c ∧ c ≤ 122 := by decide +kernel
theorem abcz_len : ("abcz" : Str).cps.toList.length = 4 := by decide +kernel
theorem az_ok : ∀ c ∈ ("abcdefghijklmnopqrstuvwxyz" : Str).cps.toList, 97 ≤ c ∧ c ≤ 122 := by decide +kernel
theorem az_len : ("abcdefghijklmnopqrstuvwxyz" : Str).cps.toList.length = 26 := by decide +kernel
theorem abcz_sz : ("abcz" : Str).length ≤ 16777216 := by decide +kernel
theorem az_sz : ("abcdefghijklmnopqrstuvwxyz" : Str).length ≤ 16777216 := by decide +kernel
/-- a nail as a text -/
def dS (x : Nat) : D := .str (tx [x])
/-- a row of letters -/
def Lt (l : List Nat) : Prop := ∀ c ∈ l, 97 ≤ c ∧ c ≤ 122
theorem az_at {i : Int} (h0 : 0 ≤ i) (h1 : i < 26) : atI (Str.ofString "abcdefghijklmnopqrstuvwxyz").cps.toList i = some (97 + i.toNat) := by
  rw [az_cps, atI_at (xs := (List.range 26).map fun i => 97 + i) (i := i) (j := i.toNat) (by omega) (by simp; omega)]
  simp
theorem lawSign_az {i : Int} (h0 : 0 ≤ i) (h1 : i < 26) : lawSign (Str.ofString "abcdefghijklmnopqrstuvwxyz") i = tx [97 + i.toNat] := by
  unfold lawSign
  rw [az_at h0 h1]
  rfl
end NL

/-! Cords as words: putting together at the front, runs, and that it is one whatever is first. -/
namespace NL
open PySem PySem.Spec L2
open PyProof.Rows hiding St

/-- a piece put ahead of runs -/
def ps (p : Pc) (w : List Pc) : List Pc := if p.2 = 0 then w else match w with
  | [] => [p]
  | l :: r => if l.1 = p.1 then (if p.2 + l.2 = 0 then r else (p.1, p.2 + l.2) :: r) else p :: l :: r
def act (c w : List Pc) : List Pc := c.foldr ps w
/-- the runs -/
def nf (c : List Pc) : List Pc := act c []
/-- no turns 0, neighbours unlike -/
def Red : List Pc → Prop
  | [] => True
  | [p] => p.2 ≠ 0
  | p :: q :: r => p.2 ≠ 0 ∧ p.1 ≠ q.1 ∧ Red (q :: r)
theorem Red.tail {p : Pc} {r : List Pc} (h : Red (p :: r)) : Red r := by
  cases r with
  | nil => trivial
  | cons q r => exact h.2.2
theorem Red.head {p : Pc} {r : List Pc} (h : Red (p :: r)) : p.2 ≠ 0 := by
  cases r with
  | nil => exact h
  | cons q r => exact h.1
theorem Red.mk {p : Pc} {r : List Pc} (h0 : p.2 ≠ 0) (h1 : ∀ q, r.head? = some q → p.1 ≠ q.1) (h : Red r) : Red (p :: r) := by
  cases r with
  | nil => exact h0
  | cons q r => exact ⟨h0, h1 q rfl, h⟩
theorem Red.ne {p q : Pc} {r : List Pc} (h : Red (p :: q :: r)) : p.1 ≠ q.1 := h.2.1
theorem Red.swap {p q : Pc} {r : List Pc} (h : Red (p :: r)) (e : q.1 = p.1) (h0 : q.2 ≠ 0) : Red (q :: r) := by
  cases r with
  | nil => exact h0
  | cons s r => exact ⟨h0, by rw [e]; exact h.2.1, h.2.2⟩
theorem ps_red {p : Pc} {w : List Pc} (h : Red w) : Red (ps p w) := by
  unfold ps
  split
  · exact h
  · rename_i h0
    cases w with
    | nil => exact h0
    | cons l r =>
      simp only
      split
      · rename_i e
        split
        · exact h.tail
        · rename_i hs
          exact h.swap e.symm hs
      · rename_i e
        exact ⟨h0, fun z => e z.symm, h⟩
theorem ps_zero {n : Str} {w : List Pc} : ps (n, 0) w = w := by simp [ps]
theorem ps_nil {p : Pc} (h : p.2 ≠ 0) : ps p [] = [p] := by simp [ps, h]
theorem ps_other {p l : Pc} {r : List Pc} (h : p.2 ≠ 0) (e : l.1 ≠ p.1) : ps p (l :: r) = p :: l :: r := by simp [ps, h, e]
theorem ps_same {p l : Pc} {r : List Pc} (h : p.2 ≠ 0) (e : l.1 = p.1) (s : p.2 + l.2 ≠ 0) : ps p (l :: r) = (p.1, p.2 + l.2) :: r := by simp [ps, h, e, s]
theorem ps_gone {p l : Pc} {r : List Pc} (h : p.2 ≠ 0) (e : l.1 = p.1) (s : p.2 + l.2 = 0) : ps p (l :: r) = r := by simp [ps, h, e, s]
/-- two pieces of one nail -/
theorem ps_ps {n : Str} {a b : Int} {w : List Pc} (hw : Red w) : ps (n, a) (ps (n, b) w) = ps (n, a + b) w := by
  by_cases ha : a = 0
  · subst ha; rw [ps_zero, Int.zero_add]
  by_cases hb : b = 0
  · subst hb; rw [ps_zero, Int.add_zero]
  cases w with
  | nil =>
    rw [ps_nil (p := (n, b)) hb]
    by_cases hs : a + b = 0
    · rw [ps_gone (p := (n, a)) (l := (n, b)) ha rfl hs, hs, ps_zero]
    · rw [ps_same (p := (n, a)) (l := (n, b)) ha rfl hs, ps_nil (p := (n, a + b)) hs]
  | cons l r =>
    by_cases e : l.1 = n
    · by_cases h1 : b + l.2 = 0
      · rw [ps_gone (p := (n, b)) hb e h1]
        have el : l.2 ≠ 0 := hw.head
        have hab : a + b + l.2 = a := by omega
        by_cases hs : a + b = 0
        · have : a = l.2 := by omega
          rw [hs, ps_zero, this]
          cases r with
          | nil => rw [ps_nil (p := (n, l.2)) el]; congr 1; exact Prod.ext e.symm rfl
          | cons q r =>
            have hq : q.1 ≠ l.1 := fun z => hw.2.1 z.symm
            rw [ps_other (p := (n, l.2)) el (by rw [← e]; exact hq)]
            congr 1
            exact Prod.ext e.symm rfl
        · rw [ps_same (p := (n, a + b)) hs e (by show a + b + l.2 ≠ 0; rw [hab]; exact ha)]
          show ps (n, a) r = (n, a + b + l.2) :: r
          rw [hab]
          cases r with
          | nil => rw [ps_nil (p := (n, a)) ha]
          | cons q r =>
            have hq : q.1 ≠ l.1 := fun z => hw.2.1 z.symm
            rw [ps_other (p := (n, a)) ha (by rw [← e]; exact hq)]
      · rw [ps_same (p := (n, b)) hb e h1]
        by_cases h2 : a + (b + l.2) = 0
        · rw [ps_gone (p := (n, a)) (l := (n, b + l.2)) ha rfl h2]
          by_cases hs : a + b = 0
          · exact absurd (show l.2 = 0 by omega) hw.head
          · rw [ps_gone (p := (n, a + b)) hs e (by show a + b + l.2 = 0; omega)]
        · rw [ps_same (p := (n, a)) (l := (n, b + l.2)) ha rfl h2]
          by_cases hs : a + b = 0
          · rw [hs, ps_zero]
            congr 1
            refine Prod.ext e.symm ?_
            show a + (b + l.2) = l.2
            omega
          · rw [ps_same (p := (n, a + b)) hs e (by show a + b + l.2 ≠ 0; omega)]
            congr 1
            refine Prod.ext rfl ?_
            show a + (b + l.2) = a + b + l.2
            omega
    · rw [ps_other (p := (n, b)) hb e]
      by_cases hs : a + b = 0
      · rw [ps_gone (p := (n, a)) (l := (n, b)) ha rfl hs, hs, ps_zero]
      · rw [ps_same (p := (n, a)) (l := (n, b)) ha rfl hs, ps_other (p := (n, a + b)) hs e]
theorem act_red {c w : List Pc} (h : Red w) : Red (act c w) := by
  induction c with
  | nil => exact h
  | cons p c ih => exact ps_red ih
theorem act_app (a b w : List Pc) : act (a ++ b) w = act a (act b w) := by simp [act, List.foldr_append]
theorem act_cons (p : Pc) (c w : List Pc) : act (p :: c) w = ps p (act c w) := rfl
theorem act_nil (w : List Pc) : act [] w = w := rfl
theorem nf_red (c : List Pc) : Red (nf c) := act_red (c := c) (w := []) trivial
theorem red_nf {w : List Pc} (h : Red w) : nf w = w := by
  induction w with
  | nil => rfl
  | cons p r ih =>
    show ps p (nf r) = p :: r
    rw [ih h.tail]
    cases r with
    | nil => exact ps_nil h
    | cons q r => exact ps_other h.1 fun z => h.2.1 z.symm
theorem nf_nf (c : List Pc) : nf (nf c) = nf c := red_nf (nf_red c)
theorem nf_app (a b : List Pc) : nf (a ++ b) = act a (nf b) := act_app a b []
/-- two cords that do one thing to runs -/
def Eqv (a b : List Pc) : Prop := ∀ w, Red w → act a w = act b w
theorem Eqv.refl (a : List Pc) : Eqv a a := fun _ _ => rfl
theorem Eqv.symm {a b : List Pc} (h : Eqv a b) : Eqv b a := fun w r => (h w r).symm
theorem Eqv.trans {a b c : List Pc} (h : Eqv a b) (g : Eqv b c) : Eqv a c := fun w r => (h w r).trans (g w r)
theorem Eqv.app {a b c d : List Pc} (h : Eqv a b) (g : Eqv c d) : Eqv (a ++ c) (b ++ d) := fun w r => by
  rw [act_app, act_app, g w r, h _ (act_red r)]
theorem Eqv.nf {a b : List Pc} (h : Eqv a b) : nf a = nf b := h [] trivial
/-- a cord does what its runs do -/
theorem eqv_nf (c : List Pc) : Eqv c (nf c) := by
  induction c with
  | nil => exact .refl _
  | cons p c ih =>
    intro w r
    rw [act_cons, ih w r]
    show ps p (act (nf c) w) = act (ps p (nf c)) w
    have hr := nf_red c
    generalize nf c = u at hr
    by_cases h0 : p.2 = 0
    · have : p = (p.1, 0) := Prod.ext rfl h0
      rw [this, ps_zero, ps_zero]
    cases u with
    | nil => rw [ps_nil h0]; rfl
    | cons l t =>
      by_cases e : l.1 = p.1
      · have e1 : l = (p.1, l.2) := Prod.ext e rfl
        have key : ps p (act (l :: t) w) = ps (p.1, p.2 + l.2) (act t w) := by
          rw [act_cons, e1]
          exact ps_ps (n := p.1) (a := p.2) (b := l.2) (act_red r)
        rw [key]
        by_cases hs : p.2 + l.2 = 0
        · rw [hs, ps_zero, ps_gone h0 e hs]
        · rw [ps_same h0 e hs]; rfl
      · rw [ps_other h0 e]; rfl
theorem nf_eqv {a b : List Pc} (h : nf a = nf b) : Eqv a b := (eqv_nf a).trans (by rw [h]; exact (eqv_nf b).symm)
theorem eqv_iff' {a b : List Pc} : Eqv a b ↔ nf a = nf b := ⟨Eqv.nf, nf_eqv⟩
theorem nf_app2 (a b : List Pc) : nf (a ++ b) = nf (nf a ++ nf b) := ((eqv_nf a).app (eqv_nf b)).nf
theorem nf_appR (a b : List Pc) : nf (a ++ b) = nf (a ++ nf b) := ((Eqv.refl a).app (eqv_nf b)).nf
theorem nf_appL (a b : List Pc) : nf (a ++ b) = nf (nf a ++ b) := ((eqv_nf a).app (Eqv.refl b)).nf
theorem nf_congr {a b c d : List Pc} (h : nf a = nf b) (g : nf c = nf d) : nf (a ++ c) = nf (b ++ d) := ((nf_eqv h).app (nf_eqv g)).nf
/-! ### one after the other, at the back -/
theorem Red.app_one : ∀ {w : List Pc} {p : Pc}, Red w → p.2 ≠ 0 → (∀ q, w.getLast? = some q → q.1 ≠ p.1) → Red (w ++ [p])
  | [], p, _, h, _ => h
  | [q], p, h, h0, h1 => ⟨h, h1 q rfl, h0⟩
  | q :: s :: r, p, h, h0, h1 => ⟨h.1, h.2.1, Red.app_one (w := s :: r) h.2.2 h0 fun t ht => h1 t (by rw [List.getLast?_cons_cons]; exact ht)⟩
theorem Red.rev : ∀ {w : List Pc}, Red w → Red w.reverse
  | [], _ => trivial
  | [p], h => h
  | p :: q :: r, h => by
    rw [List.reverse_cons]
    refine Red.app_one (Red.rev h.2.2) h.1 fun t ht => ?_
    rw [List.getLast?_reverse] at ht
    cases ht
    exact fun z => h.2.1 z.symm
def stk (st : List Pc) (p : Pc) : List Pc := ps p st
/-- the stack (its top first) behind some pieces does what they do -/
theorem stk_act : ∀ (c st : List Pc), Red st → Red (c.foldl stk st) ∧ ∀ w, Red w → act (c.foldl stk st).reverse w = act (st.reverse ++ c) w
  | [], st, h => ⟨h, fun w r => by simp⟩
  | p :: c, st, h => by
    obtain ⟨h1, h2⟩ := stk_act c (stk st p) (ps_red h)
    refine ⟨h1, fun w r => ?_⟩
    show act (List.foldl stk (stk st p) c).reverse w = _
    rw [h2 w r, act_app, act_app]
    show act (ps p st).reverse (act c w) = act st.reverse (ps p (act c w))
    have hr : Red (act c w) := act_red r
    generalize act c w = u at hr
    by_cases h0 : p.2 = 0
    · have : p = (p.1, 0) := Prod.ext rfl h0
      rw [this, ps_zero, ps_zero]
    cases st with
    | nil => rw [ps_nil h0]; rfl
    | cons l t =>
      by_cases e : l.1 = p.1
      · have e1 : l = (p.1, l.2) := Prod.ext e rfl
        have key : act (l :: t).reverse (ps p u) = act t.reverse (ps (p.1, p.2 + l.2) u) := by
          rw [List.reverse_cons, act_app]
          congr 1
          show ps l (ps p u) = _
          rw [e1]
          have := ps_ps (n := p.1) (a := l.2) (b := p.2) hr
          rw [show p.2 + l.2 = l.2 + p.2 by omega]
          exact this
        rw [key]
        by_cases hs : p.2 + l.2 = 0
        · rw [hs, ps_zero, ps_gone h0 e hs]
        · rw [ps_same h0 e hs, List.reverse_cons, act_app]; rfl
      · rw [ps_other h0 e, List.reverse_cons, act_app]; rfl
/-- the runs, put together from the beginning -/
def short (c : List Pc) : List Pc := (c.foldl stk []).reverse
theorem short_nf (c : List Pc) : short c = nf c := by
  obtain ⟨h1, h2⟩ := stk_act c [] trivial
  have h3 := h2 [] trivial
  have h4 := red_nf h1.rev
  show (c.foldl stk []).reverse = nf c
  rw [← h4]
  exact h3
/-- the runs, put together from the end: a stack, its top first -/
theorem end_nf (c : List Pc) : c.reverse.foldl stk [] = nf c := by
  rw [List.foldl_reverse]
  rfl
theorem stk_len : ∀ (c st : List Pc), (c.foldl stk st).length ≤ c.length + st.length
  | [], st => by simp
  | p :: c, st => by
    have h := stk_len c (stk st p)
    have : (stk st p).length ≤ st.length + 1 := by
      unfold stk ps
      split
      · omega
      · split
        · simp
        · split
          · split <;> simp <;> omega
          · simp
    simp only [List.foldl_cons, List.length_cons]
    omega
theorem nf_len (c : List Pc) : (nf c).length ≤ c.length := by
  have := stk_len c []
  rw [← short_nf]
  simpa [short] using this
theorem ps_mem {p q : Pc} {w : List Pc} (h : q ∈ ps p w) : q ∈ w ∨ q.1 = p.1 := by
  unfold ps at h
  split at h
  · exact .inl h
  · split at h
    · simp at h; exact .inr (by rw [h])
    · split at h
      · split at h
        · exact .inl (List.mem_cons_of_mem _ h)
        · rcases List.mem_cons.mp h with e | e
          · exact .inr (by rw [e])
          · exact .inl (List.mem_cons_of_mem _ e)
      · rcases List.mem_cons.mp h with e | e
        · exact .inr (by rw [e])
        · exact .inl e
theorem nf_nails {c : List Pc} {q : Pc} (h : q ∈ nf c) : ∃ p ∈ c, q.1 = p.1 := by
  induction c with
  | nil => cases h
  | cons p c ih =>
    rcases ps_mem (p := p) (w := nf c) h with e | e
    · obtain ⟨r, hr, e⟩ := ih e
      exact ⟨r, List.mem_cons_of_mem _ hr, e⟩
    · exact ⟨p, List.mem_cons_self, e⟩
theorem nf_ok {c : List Pc} (h : OkC c) : OkC (nf c) := fun q hq => by
  obtain ⟨p, hp, e⟩ := nf_nails hq
  rw [e]
  exact h p hp
/-! ### the contrary -/
def con (c : List Pc) : List Pc := c.reverse.map fun p => (p.1, -p.2)
theorem con_con (c : List Pc) : con (con c) = c := by
  unfold con
  rw [← List.map_reverse, List.reverse_reverse, List.map_map]
  conv => rhs; rw [← List.map_id c]
  apply List.map_congr_left
  intro p _
  simp
theorem con_app (a b : List Pc) : con (a ++ b) = con b ++ con a := by simp [con]
theorem con_cons (p : Pc) (c : List Pc) : con (p :: c) = con c ++ [(p.1, -p.2)] := by simp [con]
theorem con_len (c : List Pc) : (con c).length = c.length := by simp [con]
theorem eqv_one (p : Pc) : Eqv ([p] ++ con [p]) [] := fun w r => by
  show ps p (ps (p.1, -p.2) w) = w
  have := ps_ps (n := p.1) (a := p.2) (b := -p.2) r
  rw [show p.2 + -p.2 = 0 by omega, ps_zero] at this
  exact this
theorem eqv_con (c : List Pc) : Eqv (c ++ con c) [] := by
  induction c with
  | nil => exact .refl _
  | cons p c ih =>
    rw [con_cons]
    have e : p :: c ++ (con c ++ [(p.1, -p.2)]) = [p] ++ ((c ++ con c) ++ [(p.1, -p.2)]) := by simp
    rw [e]
    exact (((Eqv.refl [p]).app (ih.app (.refl _))).trans (by simpa [con] using eqv_one p))
theorem eqv_con' (c : List Pc) : Eqv (con c ++ c) [] := by
  have := eqv_con (con c)
  rwa [con_con] at this
theorem nf_con (c : List Pc) : nf (c ++ con c) = [] := (eqv_con c).nf
theorem nf_con' (c : List Pc) : nf (con c ++ c) = [] := (eqv_con' c).nf
theorem nf_mid {u v : List Pc} (l r : List Pc) (h : Eqv u v) : nf (l ++ u ++ r) = nf (l ++ v ++ r) := (((Eqv.refl l).app h).app (.refl r)).nf
theorem eqv_mid {l r u v : List Pc} (h : nf (l ++ u ++ r) = nf (l ++ v ++ r)) : Eqv u v := by
  have e := nf_eqv h
  have key : ∀ z : List Pc, Eqv (con l ++ (l ++ z ++ r) ++ con r) z := fun z => by
    have h1 := ((eqv_con' l).app (Eqv.refl z)).app (eqv_con r)
    simp only [List.nil_append, List.append_nil, List.append_assoc] at h1 ⊢
    exact h1
  exact (key u).symm.trans ((((Eqv.refl (con l)).app e).app (.refl (con r))).trans (key v))
theorem eqv_part {n : Str} {a b t : Int} (h : a + b = t) : Eqv [(n, t)] [(n, a), (n, b)] := fun w r => by
  show ps (n, t) w = ps (n, a) (ps (n, b) w)
  rw [ps_ps r, h]
theorem eqv_zero {n : Str} : Eqv [] [(n, 0)] := fun w _ => (ps_zero (n := n) (w := w)).symm
theorem one_ne {l r : List Pc} {p : Pc} (h : nf (l ++ [p] ++ r) = nf (l ++ r)) : p.2 = 0 := by
  by_cases h0 : p.2 = 0
  · exact h0
  · have h' : nf (l ++ [p] ++ r) = nf (l ++ [] ++ r) := by rw [List.append_nil]; exact h
    have e := (eqv_mid h').nf
    have : nf [p] = [p] := ps_nil h0
    rw [this] at e
    cases e
theorem con_red {w : List Pc} (h : Red w) : Red (con w) := by
  unfold con
  have := h.rev
  generalize w.reverse = u at this
  induction u with
  | nil => trivial
  | cons p r ih =>
    cases r with
    | nil => show -p.2 ≠ 0; have : p.2 ≠ 0 := this; omega
    | cons q r => exact ⟨by have := this.1; show -p.2 ≠ 0; omega, this.2.1, ih this.2.2⟩
theorem eqv_con_congr {a b : List Pc} (h : Eqv a b) : Eqv (con a) (con b) := by
  have e1 : Eqv (con a) (con a ++ (b ++ con b)) := by
    have := (Eqv.refl (con a)).app (eqv_con b).symm
    simpa using this
  have e2 : Eqv (con a ++ (b ++ con b)) (con a ++ (a ++ con b)) := (Eqv.refl _).app (h.symm.app (.refl _))
  have e3 : Eqv (con a ++ (a ++ con b)) (con b) := by
    have := (eqv_con' a).app (Eqv.refl (con b))
    rw [List.append_assoc] at this
    simpa using this
  exact (e1.trans e2).trans e3
theorem nf_con_nf (c : List Pc) : nf (con c) = con (nf c) := by
  rw [(eqv_con_congr (eqv_nf c)).nf]
  exact red_nf (con_red (nf_red c))
theorem con_ok {c : List Pc} (h : OkC c) : OkC (con c) := fun q hq => by
  obtain ⟨p, hp, rfl⟩ := List.mem_map.mp hq
  exact h p (List.mem_reverse.mp hp)
theorem con_gd {b : Int} {c : List Pc} (h : Gds b c) : Gds b (con c) := fun q hq => by
  obtain ⟨p, hp, rfl⟩ := List.mem_map.mp hq
  obtain ⟨h1, h2, h3⟩ := h p (List.mem_reverse.mp hp)
  exact ⟨h1, by show -b ≤ -p.2; omega, by show -p.2 ≤ b; omega⟩
theorem OkC.app {c d : List Pc} (h : OkC c) (g : OkC d) : OkC (c ++ d) := fun p hp => (List.mem_append.mp hp).elim (h p) (g p)
theorem OkC.sub {c d : List Pc} (h : OkC c) (g : ∀ p ∈ d, p ∈ c) : OkC d := fun p hp => h p (g p hp)
theorem split_at {c : List Pc} {i : Nat} (h : i < c.length) : c = c.take i ++ [c[i]] ++ c.drop (i + 1) := by
  have : c.take i ++ [c[i]] = c.take (i + 1) := by rw [List.take_succ_eq_append_getElem h]
  rw [this, List.take_append_drop]
theorem split_at2 {c : List Pc} {i : Nat} (h : i + 1 < c.length) : c = c.take i ++ [c[i], c[i + 1]] ++ c.drop (i + 2) := by
  have h1 := split_at (c := c) (i := i + 1) h
  have h2 : c.take (i + 1) = c.take i ++ [c[i]] := List.take_succ_eq_append_getElem (by omega)
  rw [h2] at h1
  simpa using h1
theorem nf_bd {b : Int} (b0 : 0 ≤ b) : ∀ {c : List Pc}, (∀ p ∈ c, -b ≤ p.2 ∧ p.2 ≤ b) → ∀ p ∈ nf c, -(c.length * b) ≤ p.2 ∧ p.2 ≤ c.length * b
  | [], _, p, h => by cases h
  | q :: c, hc, p, h => by
    have ih := nf_bd b0 (c := c) fun z hz => hc z (by simp [hz])
    have hq := hc q (by simp)
    have e : ((q :: c).length : Int) * b = c.length * b + b := by
      rw [List.length_cons, Int.natCast_succ, Int.add_mul, Int.one_mul]
    have hm : 0 ≤ (c.length : Int) * b := Int.mul_nonneg (by omega) b0
    rw [e]
    have up : ∀ z ∈ nf c, -(c.length * b + b) ≤ z.2 ∧ z.2 ≤ c.length * b + b := fun z hz => by
      have := ih z hz
      omega
    change p ∈ ps q (nf c) at h
    unfold ps at h
    split at h
    · exact up p h
    · split at h
      · rw [List.mem_singleton] at h
        subst h
        omega
      · rename_i l r hw
        rw [hw] at up ih
        split at h
        · split at h
          · exact up p (by simp [h])
          · rcases List.mem_cons.mp h with z | z
            · have := ih l (by simp)
              subst z
              simp only
              omega
            · exact up p (by simp [z])
        · rcases List.mem_cons.mp h with z | z
          · subst z; omega
          · exact up p z
/-! ### the row of a cord's nails -/
def lts (c : List Pc) : List Nat := (c.map fun p => p.1.cps.toList).flatten
theorem glue_fold : ∀ (r : List Str) (a : Array Nat), (r.foldl (fun acc p => acc ++ (tx []).cps ++ p.cps) a).toList = a.toList ++ (r.map (·.cps.toList)).flatten
  | [], a => by simp
  | s :: r, a => by
    rw [List.foldl_cons, glue_fold r]
    simp [tx]
theorem join_nil (ss : List Str) : Txt.join (tx []) ss = tx (ss.map (·.cps.toList)).flatten := by
  cases ss with
  | nil => rfl
  | cons s r =>
    show (⟨r.foldl (fun acc p => acc ++ (tx []).cps ++ p.cps) s.cps⟩ : Str) = _
    rw [tx_of (⟨r.foldl (fun acc p => acc ++ (tx []).cps ++ p.cps) s.cps⟩ : Str)]
    rw [glue_fold r s.cps]
    rfl
def Nl (c : List Pc) : Prop := ∀ p ∈ c, isNail p.1
theorem Gds.nl {b : Int} {c : List Pc} (h : Gds b c) : Nl c := fun p hp => (h p hp).1
theorem Nl.ok {c : List Pc} (h : Nl c) : OkC c := fun p hp => (h p hp).ok
theorem Nl.nf {c : List Pc} (h : Nl c) : Nl (nf c) := fun q hq => by
  obtain ⟨p, hp, e⟩ := nf_nails hq
  rw [e]
  exact h p hp
theorem Nl.app {c d : List Pc} (h : Nl c) (g : Nl d) : Nl (c ++ d) := fun p hp => (List.mem_append.mp hp).elim (h p) (g p)
theorem Nl.con {c : List Pc} (h : Nl c) : Nl (con c) := fun q hq => by
  obtain ⟨p, hp, rfl⟩ := List.mem_map.mp hq
  exact h p (List.mem_reverse.mp hp)
theorem Nl.tail {p : Pc} {c : List Pc} (h : Nl (p :: c)) : Nl c := fun q hq => h q (by simp [hq])
theorem lts_cons {p : Pc} {c : List Pc} {x : Nat} (h : p.1 = tx [x]) : lts (p :: c) = x :: lts c := by
  unfold lts
  rw [List.map_cons, List.flatten_cons, h, tx_cps]
  rfl
theorem lts_len : ∀ {c : List Pc}, Nl c → (lts c).length = c.length
  | [], _ => rfl
  | p :: c, h => by
    obtain ⟨x, hx, _⟩ := h p (by simp)
    rw [lts_cons hx, List.length_cons, List.length_cons, lts_len h.tail]
theorem nl_sum : ∀ {c : List Pc}, Nl c → ((c.map fun p => p.1).map (·.length)).sum = c.length
  | [], _ => rfl
  | p :: c, h => by
    obtain ⟨x, hx, _⟩ := h p (by simp)
    rw [List.map_cons, List.map_cons, List.sum_cons, nl_sum h.tail, hx, tx_len, List.length_cons, List.length_cons]
    simp
    omega
/-- the product of the turns -/
def prd (c : List Pc) : Int := c.foldr (fun p z => p.2 * z) 1
theorem prd_ne : ∀ {w : List Pc}, Red w → prd w ≠ 0
  | [], _ => by decide
  | p :: w, h => Int.mul_ne_zero h.head (prd_ne h.tail)
end NL

/-! How many times a row stands in a cord. -/
namespace NL
open PySem PySem.Spec L2
open PyProof.Rows hiding St

def fal (t : Int) : Nat → Int
  | 0 => 1
  | m + 1 => fal t m * (t - m)
def fac : Nat → Int
  | 0 => 1
  | m + 1 => fac m * (m + 1)
theorem fac_pos : ∀ m, 0 < fac m
  | 0 => by decide
  | m + 1 => Int.mul_pos (fac_pos m) (by omega)
theorem fal_succ (t : Int) : ∀ m, fal (t + 1) (m + 1) = (t + 1) * fal t m
  | 0 => by simp [fal]
  | m + 1 => by
    have ih := fal_succ t m
    show fal (t + 1) (m + 1) * (t + 1 - ((m + 1 : Nat) : Int)) = (t + 1) * (fal t m * (t - m))
    rw [ih, Int.mul_assoc]
    congr 2
    omega
theorem fal_pascal (t : Int) (m : Nat) : fal (t + 1) (m + 1) = fal t (m + 1) + (m + 1) * fal t m := by
  rw [fal_succ]
  show _ = fal t m * (t - m) + _
  grind
theorem up_down {p : Int → Prop} (h0 : p 0) (hs : ∀ t, p t ↔ p (t + 1)) (t : Int) : p t := by
  have up : ∀ n : Nat, p n := fun n => by
    induction n with
    | zero => exact h0
    | succ n ih => exact (hs _).mp ih
  have down : ∀ n : Nat, p (-(n : Int)) := fun n => by
    induction n with
    | zero => exact h0
    | succ n ih => exact (hs _).mpr (by rw [show -((n + 1 : Nat) : Int) + 1 = -(n : Int) by omega]; exact ih)
  rcases Int.le_total 0 t with h | h
  · have := up t.toNat
    rwa [Int.toNat_of_nonneg h] at this
  · have := down (-t).toNat
    rwa [Int.toNat_of_nonneg (by omega), Int.neg_neg] at this
theorem fal0 : ∀ m, fal 0 (m + 1) = 0
  | 0 => by simp [fal]
  | m + 1 => by
    show fal 0 (m + 1) * _ = 0
    rw [fal0 m, Int.zero_mul]
theorem fac_dvd : ∀ (m : Nat) (t : Int), fac m ∣ fal t m
  | 0, _ => ⟨1, rfl⟩
  | m + 1, t => by
    have ih := fac_dvd m
    refine up_down (p := fun t => fac (m + 1) ∣ fal t (m + 1)) ?_ (fun t => ?_) t
    · rw [fal0]; exact Int.dvd_zero _
    · have h : fac (m + 1) ∣ (m + 1) * fal t m := by
        obtain ⟨c, hc⟩ := ih t
        exact ⟨c, by rw [hc]; show _ = fac m * (m + 1) * c; grind⟩
      rw [fal_pascal]
      constructor
      · exact fun z => Int.dvd_add z h
      · intro z
        have := Int.dvd_sub z h
        rwa [Int.add_sub_cancel] at this
/-- the ways to take m of t -/
def ch (t : Int) (m : Nat) : Int := fal t m / fac m
theorem ch_mul (t : Int) (m : Nat) : ch t m * fac m = fal t m := Int.ediv_mul_cancel (fac_dvd m t)
theorem ch_eq {t z : Int} {m : Nat} (h : z * fac m = fal t m) : ch t m = z := by
  unfold ch
  rw [← h, Int.mul_ediv_cancel _ (Int.ne_of_gt (fac_pos m))]
theorem ch_zero (t : Int) : ch t 0 = 1 := ch_eq rfl
theorem ch_pascal (t : Int) (m : Nat) : ch (t + 1) (m + 1) = ch t (m + 1) + ch t m := by
  apply ch_eq
  have h1 := ch_mul t (m + 1)
  have h2 := ch_mul t m
  rw [fal_pascal, Int.add_mul, h1, ← h2]
  show _ + _ * (fac m * (m + 1)) = _
  grind
theorem ch0 (m : Nat) : ch 0 (m + 1) = 0 := ch_eq (by rw [fal0, Int.zero_mul])
theorem ch1 (m : Nat) : ch 1 (m + 2) = 0 := by
  have := ch_pascal 0 (m + 1)
  rw [ch0, ch0] at this
  exact this
theorem ch_step (t : Int) (m : Nat) : ch t m * (t - m) / (m + 1) = ch t (m + 1) := by
  have h1 := ch_mul t (m + 1)
  have h2 := ch_mul t m
  have hp := fac_pos m
  have key : ch t m * (t - m) = ch t (m + 1) * (m + 1) := by
    apply Int.eq_of_mul_eq_mul_right (Int.ne_of_gt hp)
    have e1 : ch t (m + 1) * (fac m * (m + 1)) = fal t m * (t - m) := h1
    rw [← h2] at e1
    grind
  rw [key, Int.mul_ediv_cancel _ (by omega)]

/-! ### sums over runs of one nail at the beginning -/
def xx (n : Str) (A : List Nat → Int) (f : Nat → Int) : Nat → List Nat → Int
  | m, [] => A [] * f m
  | m, x :: r => A (x :: r) * f m + if tx [x] = n then xx n A f (m + 1) r else 0
/-- a piece more, to what a row's beginnings (turned round) stand for -/
def stp (p : Pc) (A : List Nat → Int) (r : List Nat) : Int := xx p.1 A (ch p.2) 0 r
def one0 : List Nat → Int
  | [] => 1
  | _ :: _ => 0
/-- the times of a row, the row turned round -/
def tim (c : List Pc) : List Nat → Int := c.foldl (fun A p => stp p A) one0
theorem tim_app (c : List Pc) (p : Pc) : tim (c ++ [p]) = stp p (tim c) := by simp [tim, List.foldl_append]
/-! sums of sums -/
theorem xx_shift {n : Str} {A : List Nat → Int} {g : Nat → Int} : ∀ (r : List Nat) (m : Nat), xx n A (fun j => g (j + 1)) m r = xx n A g (m + 1) r
  | [], m => rfl
  | x :: r, m => by simp only [xx, xx_shift r (m + 1)]
theorem xx_add {n : Str} {A : List Nat → Int} {f g : Nat → Int} : ∀ (r : List Nat) (m : Nat), xx n A (fun j => f j + g j) m r = xx n A f m r + xx n A g m r
  | [], m => by simp only [xx, Int.mul_add]
  | x :: r, m => by
    simp only [xx, xx_add r (m + 1), Int.mul_add]
    split <;> omega
theorem xx_mul {n : Str} {A : List Nat → Int} {f : Nat → Int} {b : Int} : ∀ (r : List Nat) (m : Nat), xx n A (fun j => b * f j) m r = b * xx n A f m r
  | [], m => by simp only [xx]; grind
  | x :: r, m => by
    simp only [xx, xx_mul r (m + 1)]
    split <;> grind
theorem xx_zero {n : Str} {A : List Nat → Int} {f : Nat → Int} : ∀ (r : List Nat) (m : Nat), (∀ j, m ≤ j → f j = 0) → xx n A f m r = 0
  | [], m, h => by simp [xx, h m (Nat.le_refl m)]
  | x :: r, m, h => by
    simp only [xx, h m (Nat.le_refl m), xx_zero r (m + 1) fun j hj => h j (by omega)]
    simp
def SS (A B : List Nat → Int) : List Nat → List Nat → Int
  | pre, [] => A pre * B []
  | pre, y :: suf => A pre * B (y :: suf) + SS A B (y :: pre) suf
theorem SS_key (p : Pc) (A B : List Nat → Int) : ∀ (suf pre : List Nat), SS (stp p A) B pre suf + A pre * stp p B suf = SS A (stp p B) pre suf + xx p.1 A (fun j => xx p.1 B (ch p.2) j suf) 0 pre
  | [], pre => by
    show stp p A pre * B [] + A pre * stp p B [] = A pre * stp p B [] + xx p.1 A (fun j => B [] * ch p.2 j) 0 pre
    rw [xx_mul]
    show xx p.1 A (ch p.2) 0 pre * B [] + _ = _
    grind
  | y :: suf, pre => by
    have ih := SS_key p A B suf (y :: pre)
    have e1 : xx p.1 A (fun j => xx p.1 B (ch p.2) j suf) 0 (y :: pre) = A (y :: pre) * stp p B suf + if tx [y] = p.1 then xx p.1 A (fun j => xx p.1 B (ch p.2) j suf) 1 pre else 0 := rfl
    rw [e1] at ih
    have e2 : xx p.1 A (fun j => xx p.1 B (ch p.2) j (y :: suf)) 0 pre = B (y :: suf) * stp p A pre + if tx [y] = p.1 then xx p.1 A (fun j => xx p.1 B (ch p.2) j suf) 1 pre else 0 := by
      show xx p.1 A (fun j => B (y :: suf) * ch p.2 j + if tx [y] = p.1 then xx p.1 B (ch p.2) (j + 1) suf else 0) 0 pre = _
      rw [xx_add, xx_mul]
      congr 1
      split
      · exact xx_shift (g := fun j => xx p.1 B (ch p.2) j suf) pre 0
      · exact xx_zero pre 0 fun _ _ => rfl
    rw [e2]
    show stp p A pre * B (y :: suf) + SS (stp p A) B (y :: pre) suf + A pre * stp p B (y :: suf) = A pre * stp p B (y :: suf) + SS A (stp p B) (y :: pre) suf + _
    grind
theorem SS_one (p : Pc) (A B : List Nat → Int) (row : List Nat) : SS (stp p A) B [] row = SS A (stp p B) [] row := by
  have h := SS_key p A B row []
  have e : xx p.1 A (fun j => xx p.1 B (ch p.2) j row) 0 [] = A [] * stp p B row := rfl
  rw [e] at h
  omega
/-- what a cord's end makes of what rows stand for behind it -/
def wyA (c : List Pc) (B : List Nat → Int) : List Nat → Int := c.foldr (fun p B => stp p B) B
def wy (c : List Pc) : List Nat → Int := wyA c one0
theorem SS_all (row : List Nat) : ∀ (c : List Pc) (A B : List Nat → Int), SS (c.foldl (fun A p => stp p A) A) B [] row = SS A (wyA c B) [] row
  | [], A, B => rfl
  | p :: c, A, B => by
    rw [List.foldl_cons, SS_all row c]
    exact SS_one p A _ row
theorem SS_right (A : List Nat → Int) : ∀ (suf pre : List Nat), SS A one0 pre suf = A (suf.reverse ++ pre)
  | [], pre => by simp [SS, one0]
  | y :: suf, pre => by simp [SS, one0, SS_right A suf]
theorem SS_left0 (B : List Nat → Int) : ∀ (suf pre : List Nat) (y : Nat), SS one0 B (y :: pre) suf = 0
  | [], pre, y => by simp [SS, one0]
  | z :: suf, pre, y => by simp [SS, one0, SS_left0 B suf]
theorem SS_left (B : List Nat → Int) (suf : List Nat) : SS one0 B [] suf = B suf := by
  cases suf with
  | nil => simp [SS, one0]
  | cons y suf => simp [SS, one0, SS_left0]
theorem wy_tim (c : List Pc) (row : List Nat) : wy c row = tim c row.reverse := by
  have h := SS_all row c one0 one0
  rw [SS_right, SS_left, List.append_nil] at h
  exact h.symm
theorem tim_wy (c : List Pc) (row : List Nat) : tim c row = wy c row.reverse := by rw [wy_tim, List.reverse_reverse]

/-! ### pieces put together -/
theorem stp_zero (n : Str) (A : List Nat → Int) : stp (n, 0) A = A := by
  funext r
  show xx n A (ch 0) 0 r = A r
  cases r with
  | nil => show A [] * ch 0 0 = _; rw [ch_zero, Int.mul_one]
  | cons x r =>
    show A (x :: r) * ch 0 0 + (if tx [x] = n then xx n A (ch 0) 1 r else 0) = _
    rw [ch_zero, xx_zero r 1 fun j hj => by obtain ⟨i, rfl⟩ : ∃ i, j = i + 1 := ⟨j - 1, by omega⟩; exact ch0 i]
    simp
/-- one turn more -/
def bump (n : Str) (A : List Nat → Int) : List Nat → Int
  | [] => A []
  | x :: r => A (x :: r) + if tx [x] = n then A r else 0
theorem stp_succ (n : Str) (t : Int) (A : List Nat → Int) : stp (n, t + 1) A = bump n (stp (n, t) A) := by
  funext r
  show xx n A (ch (t + 1)) 0 r = bump n (fun r => xx n A (ch t) 0 r) r
  cases r with
  | nil => show A [] * ch (t + 1) 0 = A [] * ch t 0; rw [ch_zero, ch_zero]
  | cons x r =>
    show A (x :: r) * ch (t + 1) 0 + (if tx [x] = n then xx n A (ch (t + 1)) 1 r else 0) = A (x :: r) * ch t 0 + (if tx [x] = n then xx n A (ch t) 1 r else 0) + if tx [x] = n then xx n A (ch t) 0 r else 0
    rw [ch_zero, ch_zero, ← xx_shift (g := ch (t + 1)) r 0]
    have : (fun j => ch (t + 1) (j + 1)) = fun j => ch t (j + 1) + ch t j := funext fun j => ch_pascal t j
    rw [this, xx_add, xx_shift (g := ch t) r 0]
    simp only [Nat.zero_add]
    split <;> omega
theorem bump_inj {n : Str} {A B : List Nat → Int} (h : bump n A = bump n B) : A = B := by
  funext r
  induction r with
  | nil => exact congrFun h []
  | cons x r ih =>
    have := congrFun h (x :: r)
    simp only [bump, ih] at this
    omega
theorem stp_stp (n : Str) (a b : Int) (A : List Nat → Int) : stp (n, a) (stp (n, b) A) = stp (n, a + b) A := by
  refine up_down (p := fun a => stp (n, a) (stp (n, b) A) = stp (n, a + b) A) ?_ (fun a => ?_) a
  · rw [stp_zero, Int.zero_add]
  · rw [show a + 1 + b = a + b + 1 by omega, stp_succ, stp_succ]
    exact ⟨fun h => by rw [h], bump_inj⟩
theorem wyA_ps (p : Pc) (w : List Pc) (B : List Nat → Int) : wyA (ps p w) B = stp p (wyA w B) := by
  unfold ps
  split
  · rename_i h
    have : p = (p.1, 0) := Prod.ext rfl h
    rw [this, stp_zero]
  · cases w with
    | nil => rfl
    | cons l r =>
      simp only
      split
      · rename_i e
        have el : l = (p.1, l.2) := Prod.ext e rfl
        have key : stp p (wyA (l :: r) B) = stp (p.1, p.2 + l.2) (wyA r B) := by
          show stp p (stp l (wyA r B)) = _
          rw [el]
          exact stp_stp p.1 p.2 l.2 (wyA r B)
        rw [key]
        split
        · rename_i hs
          rw [hs, stp_zero]
        · rfl
      · rfl
theorem wyA_act (c w : List Pc) (B : List Nat → Int) : wyA (act c w) B = wyA c (wyA w B) := by
  induction c with
  | nil => rfl
  | cons p c ih =>
    rw [act_cons, wyA_ps, ih]
    rfl
theorem wyA_nf (c : List Pc) (B : List Nat → Int) : wyA (nf c) B = wyA c B := wyA_act c [] B
theorem wyA_app (c d : List Pc) (B : List Nat → Int) : wyA (c ++ d) B = wyA c (wyA d B) := by simp [wyA, List.foldr_append]
theorem wy_nf (c : List Pc) : wy (nf c) = wy c := wyA_nf c one0
theorem wy_congr {c d : List Pc} (h : nf c = nf d) : wy c = wy d := by rw [← wy_nf c, h, wy_nf]
theorem wy_fall {c : List Pc} (h : nf c = []) : wy c = one0 := by rw [← wy_nf c, h]; rfl
theorem tim_congr {c d : List Pc} (h : nf c = nf d) : tim c = tim d := funext fun r => by rw [tim_wy, tim_wy, wy_congr h]
theorem ch_one (t : Int) : ch t 1 = t := ch_eq (by simp [fac, fal])
/-! ### how great -/
theorem two_le {a b : Nat} (h : a ≤ b) : (2 : Nat) ^ a ≤ 2 ^ b := Nat.pow_le_pow_right (by decide) h
theorem fal_bd {t : Int} (h : t.natAbs ≤ 2 ^ 120) : ∀ m : Nat, m ≤ 64 → (fal t m).natAbs ≤ 2 ^ (121 * m)
  | 0, _ => by show (1 : Int).natAbs ≤ 2 ^ (121 * 0); decide
  | m + 1, hm => by
    have ih := fal_bd h m (by omega)
    show (fal t m * (t - m)).natAbs ≤ _
    rw [Int.natAbs_mul, Nat.mul_succ, Nat.pow_add]
    refine Nat.mul_le_mul ih ?_
    have e1 : (2 : Nat) ^ 120 = 1329227995784915872903807060280344576 := by decide
    have e2 : (2 : Nat) ^ 121 = 2658455991569831745807614120560689152 := by decide
    omega
theorem ch_bd {t : Int} (h : t.natAbs ≤ 2 ^ 120) {m : Nat} (hm : m ≤ 64) : (ch t m).natAbs ≤ 2 ^ (121 * m) := by
  refine Nat.le_trans ?_ (fal_bd h m hm)
  rw [← ch_mul t m, Int.natAbs_mul]
  exact Nat.le_mul_of_pos_right _ (by have := fac_pos m; omega)
theorem fac_bd : ∀ m : Nat, m ≤ 64 → (fac m).natAbs ≤ 2 ^ (7 * m)
  | 0, _ => by decide
  | m + 1, hm => by
    have ih := fac_bd m (by omega)
    show (fac m * (m + 1)).natAbs ≤ _
    rw [Int.natAbs_mul, Nat.mul_succ, Nat.pow_add]
    refine Nat.mul_le_mul ih ?_
    have e2 : (2 : Nat) ^ 7 = 128 := by decide
    omega
/-- how long the run of a nail at the beginning is -/
def lead (n : Str) : List Nat → Nat
  | [] => 0
  | x :: r => if tx [x] = n then lead n r + 1 else 0
/-- no runs longer than this -/
def RL (M : Nat) : List Nat → Prop
  | [] => True
  | x :: r => lead (tx [x]) r + 1 ≤ M ∧ RL M r
theorem RL.lead {M : Nat} {n : Str} : ∀ {r : List Nat}, RL M r → lead n r ≤ M
  | [], _ => Nat.zero_le _
  | x :: r, h => by
    unfold NL.lead
    split
    · rename_i e
      rw [← e]
      exact h.1
    · exact Nat.zero_le _
theorem lead_le {n : Str} : ∀ {r : List Nat}, lead n r ≤ r.length
  | [] => Nat.zero_le _
  | x :: r => by
    unfold lead
    have := lead_le (n := n) (r := r)
    split <;> simp <;> omega
theorem RL.of {M : Nat} : ∀ {r : List Nat}, r.length ≤ M → RL M r
  | [], _ => trivial
  | x :: r, h => ⟨by have := lead_le (n := tx [x]) (r := r); simp at h; omega, RL.of (by simp at h; omega)⟩
theorem RL.tail {M : Nat} {x : Nat} {r : List Nat} (h : RL M (x :: r)) : RL M r := h.2
theorem RL.drop {M : Nat} : ∀ {r : List Nat} (i : Nat), RL M r → RL M (r.drop i)
  | r, 0, h => h
  | [], i + 1, h => h
  | x :: r, i + 1, h => by rw [List.drop_succ_cons]; exact RL.drop i h.2
/-- rows that end a row, and what they stand for, are so great at most -/
def Bdd (M N : Nat) (A : List Nat → Int) : Prop := ∀ r, RL M r → (A r).natAbs ≤ 2 ^ N
theorem xx_bd {M N F : Nat} {n : Str} {A : List Nat → Int} {f : Nat → Int} (hA : Bdd M N A) (hM : M ≤ 64) : ∀ (r : List Nat) (m : Nat), RL M r → m + lead n r ≤ M → (∀ j, j ≤ M → (f j).natAbs ≤ 2 ^ F) → (xx n A f m r).natAbs ≤ (lead n r + 1) * 2 ^ (N + F)
  | [], m, h, hl, hf => by
    show (A [] * f m).natAbs ≤ (0 + 1) * _
    rw [Int.natAbs_mul, Nat.pow_add, Nat.zero_add, Nat.one_mul]
    exact Nat.mul_le_mul (hA _ h) (hf m (by omega))
  | x :: r, m, h, hl, hf => by
    have e1 : (A (x :: r) * f m).natAbs ≤ 2 ^ (N + F) := by
      rw [Int.natAbs_mul, Nat.pow_add]
      exact Nat.mul_le_mul (hA _ h) (hf m (by omega))
    unfold xx NL.lead at *
    split
    · rename_i e
      rw [if_pos e] at hl
      have ih := xx_bd (n := n) hA hM r (m + 1) h.2 (by omega) hf
      rw [Nat.add_mul, Nat.one_mul]
      omega
    · rw [Nat.zero_add, Nat.one_mul, Int.add_zero]
      exact e1
theorem stp_bd {M N : Nat} {p : Pc} {A : List Nat → Int} (hA : Bdd M N A) (hM : M ≤ 64) (hp : p.2.natAbs ≤ 2 ^ 120) : Bdd M (N + (121 * M + 7)) (stp p A) := fun r h => by
  have h1 := xx_bd (n := p.1) (f := ch p.2) (F := 121 * M) hA hM r 0 h (by have := h.lead (n := p.1); omega) fun j hj => Nat.le_trans (ch_bd hp (by omega)) (two_le (by omega))
  have h2 := h.lead (n := p.1)
  have e : (2 : Nat) ^ (N + (121 * M + 7)) = 128 * 2 ^ (N + 121 * M) := by
    rw [show N + (121 * M + 7) = 7 + (N + 121 * M) by omega, Nat.pow_add]
  rw [e]
  exact Nat.le_trans h1 (Nat.mul_le_mul (by omega) (Nat.le_refl _))
theorem one_bd {M : Nat} : Bdd M 0 one0 := fun r _ => by cases r <;> simp [one0]
theorem tim_bd {M : Nat} (hM : M ≤ 64) : ∀ (c : List Pc) {A : List Nat → Int} {N : Nat}, (∀ p ∈ c, p.2.natAbs ≤ 2 ^ 120) → Bdd M N A → Bdd M (N + c.length * (121 * M + 7)) (c.foldl (fun A p => stp p A) A)
  | [], A, N, _, h => by simpa using h
  | p :: c, A, N, hc, h => by
    have := tim_bd hM c (fun q hq => hc q (by simp [hq])) (stp_bd h hM (hc p (by simp)))
    rw [List.foldl_cons, List.length_cons, Nat.add_mul, Nat.one_mul]
    rw [show N + (c.length * (121 * M + 7) + (121 * M + 7)) = N + (121 * M + 7) + c.length * (121 * M + 7) by omega]
    exact this
/-- what is still to come, behind the first so many -/
def rs (n : Str) (A : List Nat → Int) (f : Nat → Int) (m : Nat) : List Nat → Int
  | [] => 0
  | x :: r => if tx [x] = n then xx n A f (m + 1) r else 0
theorem rs_cons {n : Str} {A : List Nat → Int} {f : Nat → Int} {m x : Nat} {r : List Nat} : rs n A f m (x :: r) = if tx [x] = n then xx n A f (m + 1) r else 0 := rfl
theorem xx_rs {n : Str} {A : List Nat → Int} {f : Nat → Int} {m : Nat} {r : List Nat} : xx n A f m r = A r * f m + rs n A f m r := by
  cases r with
  | nil => simp [xx, rs]
  | cons x r => rfl
theorem mul_le {i j : Int} {a b : Nat} (h1 : i.natAbs ≤ 2 ^ a) (h2 : j.natAbs ≤ 2 ^ b) (h : a + b < 999990) : CMulW i j :=
  mulWn (a := a) (b := b) (Nat.lt_of_le_of_lt h1 (Nat.pow_lt_pow_right (by decide) (by omega))) (Nat.lt_of_le_of_lt h2 (Nat.pow_lt_pow_right (by decide) (by omega))) (by omega)
/-- turns of at most 120 binary figures -/
def Tb (c : List Pc) : Prop := ∀ p ∈ c, p.2.natAbs ≤ 2 ^ 120
theorem step_bd {t : Int} (ht : t.natAbs ≤ 2 ^ 120) {i : Nat} (hi : i ≤ 64) : (t - i).natAbs ≤ 2 ^ 121 := by
  have e1 : (2 : Nat) ^ 120 = 1329227995784915872903807060280344576 := by decide
  have e2 : (2 : Nat) ^ 121 = 2658455991569831745807614120560689152 := by decide
  omega
theorem rng1 {m : Nat} : rng 0 1 m = (List.range m).map fun i : Nat => (i : Int) := by
  unfold rng
  apply List.map_congr_left
  intro i _
  omega
theorem rng_next {m i : Nat} {k : Nat} {r : List Nat} (h : k :: r = (List.range m).drop i) : i < m ∧ k = i ∧ r = (List.range m).drop (i + 1) := by
  have hlt : i < m := by
    have := congrArg List.length h
    simp at this
    omega
  rw [List.drop_eq_getElem_cons (by simpa using hlt)] at h
  obtain ⟨h1, h2⟩ := List.cons.inj h
  exact ⟨hlt, by simpa using h1, h2⟩
theorem rng_end {m i : Nat} (h : [] = (List.range m).drop i) (hi : i ≤ m) : i = m := by
  have := congrArg List.length h
  simp at this
  omega
theorem wy_bd {M : Nat} (hM : M ≤ 64) : ∀ {c : List Pc}, Tb c → Bdd M (c.length * (121 * M + 7)) (wy c)
  | [], _ => by rw [List.length_nil, Nat.zero_mul]; exact one_bd
  | p :: c, h => by
    have := stp_bd (p := p) (wy_bd hM (c := c) fun q hq => h q (by simp [hq])) hM (h p (by simp))
    rw [List.length_cons, Nat.add_mul, Nat.one_mul]
    exact this
theorem Tb.tail {p : Pc} {c : List Pc} (h : Tb (p :: c)) : Tb c := fun q hq => h q (by simp [hq])
theorem Tb.of {b : Int} {c : List Pc} (h : Gds b c) (hb : b ≤ 1000000000000000000000000000000) : Tb c := fun p hp => by
  obtain ⟨_, h1, h2⟩ := h p hp
  have e1 : (2 : Nat) ^ 120 = 1329227995784915872903807060280344576 := by decide
  omega
theorem xx_run {n : Str} {x : Nat} (e : tx [x] = n) {f : Nat → Int} : ∀ (m k : Nat), xx n one0 f k (List.replicate m x) = f (k + m)
  | 0, k => by simp [xx, one0]
  | m + 1, k => by
    simp only [List.replicate_succ, xx, one0, if_pos e, xx_run e m (k + 1)]
    rw [Int.zero_mul, Int.zero_add]
    congr 1
    omega
theorem xx_off {n : Str} {x y : Nat} (e : tx [x] = n) (ne : tx [y] ≠ n) {f : Nat → Int} {r : List Nat} : ∀ (m k : Nat), xx n one0 f k (List.replicate m x ++ y :: r) = 0
  | 0, k => by simp [xx, one0, ne]
  | m + 1, k => by
    simp only [List.replicate_succ, List.cons_append, xx, one0, if_pos e, xx_off e ne m (k + 1)]
    simp
theorem xx_same {n : Str} {A B : List Nat → Int} {f : Nat → Int} {x : Nat} (h : ∀ m, A (List.replicate m x) = B (List.replicate m x)) : ∀ (m k : Nat), xx n A f k (List.replicate m x) = xx n B f k (List.replicate m x)
  | 0, k => by
    have := h 0
    simp only [List.replicate_zero] at this
    simp only [List.replicate_zero, xx, this]
  | m + 1, k => by
    have := h (m + 1)
    simp only [List.replicate_succ] at this
    simp only [List.replicate_succ, xx, this, xx_same h m (k + 1)]
theorem stp_side {p : Pc} {A : List Nat → Int} {x : Nat} (ne : tx [x] ≠ p.1) (m : Nat) : stp p A (List.replicate m x) = A (List.replicate m x) := by
  cases m with
  | zero => simp [stp, xx, ch_zero]
  | succ m => simp [stp, xx, ch_zero, List.replicate_succ, ne]
def tab (A : List Nat → Int) (l : List Nat) : List Int := (List.range (l.length + 1)).map fun e => A (l.take e).reverse
theorem tab_len {A : List Nat → Int} {l : List Nat} : (tab A l).length = l.length + 1 := by simp [tab]
theorem tab_at {A : List Nat → Int} {l : List Nat} {e : Nat} (h : e ≤ l.length) : (tab A l)[e]? = some (A (l.take e).reverse) := by
  unfold tab
  rw [List.getElem?_map, List.getElem?_range (by omega)]
  rfl
theorem tab_init {l : List Nat} : (tab one0 l).map D.int = D.int 1 :: ([] ++ l.map fun _ => D.int 0) := by
  rw [List.nil_append]
  unfold tab
  rw [List.range_succ_eq_map, List.map_cons, List.map_cons, List.map_map, List.map_map]
  congr 1
  apply List.ext_getElem
  · simp
  · intro i h1 h2
    simp at h1 h2
    simp only [List.getElem_map, List.getElem_range, Function.comp]
    have : (l.take (i + 1)).reverse ≠ [] := by
      simp
      intro z
      rw [z] at h2
      simp at h2
    cases q : (l.take (i + 1)).reverse with
    | nil => exact absurd q this
    | cons x r => rfl
theorem tab_of {A : List Nat → Int} {l : List Nat} {ts : List Int} (hl : ts.length = l.length + 1) (h : ∀ e, e ≤ l.length → ts[e]? = some (A (l.take e).reverse)) : ts = tab A l := by
  apply List.ext_getElem?
  intro i
  by_cases hi : i ≤ l.length
  · rw [h i hi, tab_at hi]
  · rw [List.getElem?_eq_none (by omega), List.getElem?_eq_none (by rw [tab_len]; omega)]
/-! ### rows with unlike neighbours -/
theorem lead0 {x : Nat} {r : List Nat} : lead (tx [x]) r = 0 ↔ r.head? ≠ some x := by
  cases r with
  | nil => simp [lead]
  | cons y r =>
    unfold lead
    by_cases e : y = x
    · subst e; simp
    · have : ¬ tx [y] = tx [x] := fun z => e (by simpa using tx_inj.mp z)
      simp [this, e]
theorem RL1_cons {x : Nat} {r : List Nat} : RL 1 (x :: r) ↔ r.head? ≠ some x ∧ RL 1 r := by
  rw [← lead0]
  show lead (tx [x]) r + 1 ≤ 1 ∧ _ ↔ _
  constructor
  · exact fun h => ⟨by omega, h.2⟩
  · exact fun h => ⟨by omega, h.2⟩
theorem RL1_snoc {x : Nat} : ∀ {r : List Nat}, RL 1 r → (∀ y, r.getLast? = some y → y ≠ x) → RL 1 (r ++ [x])
  | [], _, _ => RL1_cons.mpr ⟨by simp, trivial⟩
  | [y], h, g => RL1_cons.mpr ⟨by have := g y rfl; simp; exact fun z => this z.symm, RL1_cons.mpr ⟨by simp, trivial⟩⟩
  | y :: z :: r, h, g => by
    have h' := RL1_cons.mp h
    exact RL1_cons.mpr ⟨by simpa using h'.1, RL1_snoc (r := z :: r) h'.2 fun w hw => g w (by rw [List.getLast?_cons_cons]; exact hw)⟩
theorem RL1_rev : ∀ {r : List Nat}, RL 1 r → RL 1 r.reverse
  | [], _ => trivial
  | x :: r, h => by
    have h' := RL1_cons.mp h
    rw [List.reverse_cons]
    refine RL1_snoc (RL1_rev h'.2) fun y hy => ?_
    rw [List.getLast?_reverse] at hy
    intro z
    subst z
    exact h'.1 hy
/-- one of each nail at most -/
def stq (p : Pc) (A : List Nat → Int) : List Nat → Int
  | [] => A []
  | x :: r => A (x :: r) + if tx [x] = p.1 then A r * p.2 else 0
theorem stp_stq {p : Pc} {A : List Nat → Int} {r : List Nat} (h : RL 1 r) : stp p A r = stq p A r := by
  cases r with
  | nil => show A [] * ch p.2 0 = A []; rw [ch_zero, Int.mul_one]
  | cons x r =>
    show A (x :: r) * ch p.2 0 + (if tx [x] = p.1 then xx p.1 A (ch p.2) 1 r else 0) = A (x :: r) + if tx [x] = p.1 then A r * p.2 else 0
    rw [ch_zero, Int.mul_one]
    split
    · rename_i e
      have h' := RL1_cons.mp h
      rw [xx_rs, ch_one]
      have : rs p.1 A (ch p.2) 1 r = 0 := by
        cases r with
        | nil => rfl
        | cons y r =>
          rw [rs_cons, if_neg]
          intro z
          rw [← e] at z
          have : y = x := by simpa using tx_inj.mp z
          exact h'.1 (by rw [this]; rfl)
      rw [this, Int.add_zero]
    · rfl
theorem wy_nil (l : List Nat) : wy [] l = one0 l := rfl
theorem wy_cons1 {p : Pc} {c : List Pc} {x : Nat} {r : List Nat} (h : RL 1 (x :: r)) : wy (p :: c) (x :: r) = wy c (x :: r) + if tx [x] = p.1 then wy c r * p.2 else 0 := stp_stq (A := wy c) h
theorem wy_empty : ∀ c : List Pc, wy c [] = 1
  | [] => rfl
  | p :: c => by
    show stp p (wy c) [] = 1
    rw [stp_stq (r := []) trivial]
    exact wy_empty c
theorem wy_long : ∀ {c : List Pc} {l : List Nat}, RL 1 l → c.length < l.length → wy c l = 0
  | [], [], _, h => by simp at h
  | [], _ :: _, _, _ => rfl
  | p :: c, [], _, h => by simp at h
  | p :: c, x :: l, hr, h => by
    simp only [List.length_cons] at h
    rw [wy_cons1 hr, wy_long (c := c) hr (by simp; omega), wy_long (c := c) (RL1_cons.mp hr).2 (by omega)]
    simp
theorem lts_RL : ∀ {w : List Pc}, Nl w → Red w → RL 1 (lts w)
  | [], _, _ => trivial
  | [p], h, _ => by
    obtain ⟨x, hx, _⟩ := h p (by simp)
    rw [lts_cons hx]
    exact RL1_cons.mpr ⟨by simp [lts], trivial⟩
  | p :: q :: w, h, hr => by
    obtain ⟨x, hx, _⟩ := h p (by simp)
    obtain ⟨y, hy, _⟩ := h q (by simp)
    have ih := lts_RL h.tail hr.2.2
    rw [lts_cons hx]
    refine RL1_cons.mpr ⟨?_, ih⟩
    rw [lts_cons hy]
    intro z
    have : y = x := by simpa using z
    exact hr.2.1 (by rw [hx, hy, this])
/-- the row of runs stands in them as often as the turns' product -/
theorem wy_runs : ∀ {w : List Pc}, Nl w → Red w → wy w (lts w) = prd w
  | [], _, _ => rfl
  | p :: w, h, hr => by
    obtain ⟨x, hx, _⟩ := h p (by simp)
    have hrl := lts_RL h hr
    rw [lts_cons hx] at hrl ⊢
    rw [wy_cons1 hrl, wy_long hrl (by rw [List.length_cons, lts_len h.tail]; omega), if_pos hx.symm, wy_runs h.tail hr.tail]
    show 0 + prd w * p.2 = p.2 * prd w
    grind
theorem prd_bd : ∀ {c : List Pc}, Tb c → (prd c).natAbs ≤ 2 ^ (c.length * 120)
  | [], _ => by decide
  | p :: c, h => by
    show (p.2 * prd c).natAbs ≤ _
    rw [Int.natAbs_mul, List.length_cons, Nat.succ_mul, Nat.pow_add, Nat.mul_comm]
    exact Nat.mul_le_mul (prd_bd h.tail) (h p (by simp))
theorem prd_app (a b : List Pc) : prd (a ++ b) = prd a * prd b := by
  induction a with
  | nil => show prd b = 1 * prd b; omega
  | cons p a ih => show p.2 * prd (a ++ b) = p.2 * prd a * prd b; rw [ih, Int.mul_assoc]
theorem Tb.nf {b : Int} {c : List Pc} (h : Gds b c) (b0 : 0 ≤ b) (hb : b ≤ 1000000000000000000000000000000) (hl : c.length ≤ 100000) : Tb (nf c) := fun p hp => by
  have e1 : (2 : Nat) ^ 120 = 1329227995784915872903807060280344576 := by decide
  have := nf_bd b0 (fun p hp => (h p hp).2) p hp
  have hm : (c.length : Int) * b ≤ 100000 * 1000000000000000000000000000000 := Int.mul_le_mul (by omega) hb b0 (by omega)
  omega
/-! ### the shortest end of a row that stands in a cord -/
def fndL (b one other : List Pc) (row : List Nat) : List Nat → D
  | [] => .non
  | s :: r => if wy b (row.drop (row.length - s)) = 0 then fndL b one other row r else .tup [.str (tx (row.drop (row.length - s))), .int (wy one (row.drop (row.length - s))), .int (wy other (row.drop (row.length - s)))]
def told (one other : List Pc) : D := fndL (nf (con one ++ other)) one other (lts (nf (con one ++ other))) ((List.range (lts (nf (con one ++ other))).length).map (· + 1))
theorem wyA_low {B : List Nat → Int} {e : List Nat} (hr : RL 1 e) (hB : ∀ s, s <:+ e → s ≠ e → B s = one0 s) : ∀ (c : List Pc) (s : List Nat), s <:+ e → s ≠ e → wyA c B s = wy c s
  | [], s, h1, h2 => hB s h1 h2
  | p :: c, [], h1, h2 => by
    rw [wy_empty]
    show stp p (wyA c B) [] = 1
    rw [stp_stq (r := []) trivial]
    show wyA c B [] = 1
    rw [wyA_low hr hB c [] h1 h2, wy_empty]
  | p :: c, x :: r, h1, h2 => by
    have hs : RL 1 (x :: r) := by
      obtain ⟨t, ht⟩ := h1
      have := RL.drop t.length hr
      rw [← ht, List.drop_left] at this
      exact this
    have hr1 : r <:+ e := (List.suffix_cons x r).trans h1
    have hr2 : r ≠ e := fun z => by
      have := h1.length_le
      rw [← z, List.length_cons] at this
      omega
    rw [wy_cons1 hs]
    show stp p (wyA c B) (x :: r) = _
    rw [stp_stq hs]
    show wyA c B (x :: r) + (if tx [x] = p.1 then wyA c B r * p.2 else 0) = _
    rw [wyA_low hr hB c _ h1 h2, wyA_low hr hB c r hr1 hr2]
theorem wyA_top {B : List Nat → Int} {x : Nat} {r : List Nat} (hr : RL 1 (x :: r)) (hB : ∀ s, s <:+ (x :: r) → s ≠ x :: r → B s = one0 s) : ∀ c : List Pc, wyA c B (x :: r) = wy c (x :: r) + B (x :: r)
  | [] => by show B (x :: r) = 0 + B (x :: r); omega
  | p :: c => by
    rw [wy_cons1 hr]
    show stp p (wyA c B) (x :: r) = _
    rw [stp_stq hr]
    show wyA c B (x :: r) + (if tx [x] = p.1 then wyA c B r * p.2 else 0) = _
    rw [wyA_top hr hB c, wyA_low hr hB c r (List.suffix_cons x r) (fun z => by have := congrArg List.length z; simp at this)]
    omega
theorem told_nf (one other : List Pc) : nf (one ++ nf (con one ++ other)) = nf other := by
  rw [← nf_appR, ← List.append_assoc]
  have := (eqv_con one).app (Eqv.refl other)
  simpa using this.nf
/-- what is told of two cords: none just where they are one, else unlike numbers -/
theorem fnd_ne {one other : List Pc} (hn : Nl one) (hm : Nl other) : ∀ (ss : List Nat) (k : Nat), ss = ((List.range (lts (nf (con one ++ other))).length).drop k).map (· + 1) → (∀ s, s <:+ lts (nf (con one ++ other)) → s.length ≤ k → wy (nf (con one ++ other)) s = one0 s) →
    fndL (nf (con one ++ other)) one other (lts (nf (con one ++ other))) ss = .non ∧ (∀ s, s <:+ lts (nf (con one ++ other)) → wy (nf (con one ++ other)) s = one0 s) ∨
    ∃ (e : List Nat) (i j : Int), fndL (nf (con one ++ other)) one other (lts (nf (con one ++ other))) ss = .tup [.str (tx e), .int i, .int j] ∧ i ≠ j ∧ e <:+ lts (nf (con one ++ other)) := fun ss k hk hz => by
  have hb : RL 1 (lts (nf (con one ++ other))) := lts_RL (hn.con.app hm).nf (nf_red _)
  generalize hrow : lts (nf (con one ++ other)) = row at hk hz hb ⊢
  induction ss generalizing k with
  | nil =>
    left
    refine ⟨rfl, fun s hs => hz s hs ?_⟩
    have h1 := congrArg List.length hk
    simp at h1
    have := hs.length_le
    omega
  | cons s ss ih =>
    have hlt : k < row.length := by
      have h1 := congrArg List.length hk
      simp at h1
      omega
    rw [List.drop_eq_getElem_cons (by simpa using hlt), List.map_cons] at hk
    obtain ⟨h1, h2⟩ := List.cons.inj hk
    simp at h1
    subst h1
    unfold fndL
    split
    · rename_i h0
      refine ih (k + 1) h2 fun s hs hl => ?_
      rcases Nat.lt_or_ge s.length (k + 1) with w | w
      · exact hz s hs (by omega)
      · have es : s = row.drop (row.length - (k + 1)) := by
          rw [List.suffix_iff_eq_drop] at hs
          rw [hs]
          congr 1
          have := congrArg List.length hs
          simp at this
          omega
        rw [es, h0]
        cases hd : row.drop (row.length - (k + 1)) with
        | nil =>
          have := congrArg List.length hd
          simp at this
          omega
        | cons x r => rfl
    · rename_i h0
      right
      refine ⟨_, _, _, rfl, ?_, List.drop_suffix _ _⟩
      have hsuf : row.drop (row.length - (k + 1)) <:+ row := List.drop_suffix _ _
      have hlen : (row.drop (row.length - (k + 1))).length = k + 1 := by simp; omega
      have hre : RL 1 (row.drop (row.length - (k + 1))) := hb.drop _
      generalize row.drop (row.length - (k + 1)) = e at h0 hsuf hlen hre ⊢
      cases e with
      | nil => simp at hlen
      | cons x r =>
        have hB : ∀ s, s <:+ (x :: r) → s ≠ x :: r → wy (nf (con one ++ other)) s = one0 s := fun s hs hne => by
          refine hz s (hs.trans hsuf) ?_
          have l1 := hs.length_le
          have l2 : s.length ≠ (x :: r).length := fun z => hne (hs.eq_of_length z)
          omega
        have key : wy other (x :: r) = wy one (x :: r) + wy (nf (con one ++ other)) (x :: r) := by
          rw [← wyA_top hre hB one]
          show wy other _ = wyA one (wyA (nf (con one ++ other)) one0) _
          rw [← wyA_app]
          show wy other _ = wy (one ++ nf (con one ++ other)) _
          rw [wy_congr (told_nf one other)]
        omega
theorem told_same (one : List Pc) : told one one = .non := by
  unfold told
  rw [nf_con']
  rfl
theorem rng11 {n : Nat} : (rng 1 1 n).map D.int = ((List.range n).map (· + 1)).map fun s : Nat => D.int s := by
  unfold rng
  rw [List.map_map, List.map_map]
  apply List.map_congr_left
  intro i _
  simp only [Function.comp]
  congr 1
  omega
theorem Tb.app {c d : List Pc} (h : Tb c) (g : Tb d) : Tb (c ++ d) := fun p hp => (List.mem_append.mp hp).elim (h p) (g p)
theorem Tb.con {c : List Pc} (h : Tb c) : Tb (con c) := fun q hq => by
  obtain ⟨p, hp, rfl⟩ := List.mem_map.mp hq
  have := h p (List.mem_reverse.mp hp)
  show (-p.2).natAbs ≤ 2 ^ 120
  rw [Int.natAbs_neg]
  exact this
theorem lts_ok : ∀ {c : List Pc}, Nl c → ∀ x ∈ lts c, 97 ≤ x ∧ x ≤ 122
  | [], _, x, h => by simp [lts] at h
  | p :: c, hn, x, h => by
    obtain ⟨y, hy, h1, h2⟩ := hn p (by simp)
    rw [lts_cons hy] at h
    rcases List.mem_cons.mp h with z | z
    · rw [z]; exact ⟨h1, h2⟩
    · exact lts_ok hn.tail x z
theorem told_cases {one other : List Pc} (hn : Nl one) (hm : Nl other) : told one other = .non ∨ ∃ (e : List Nat) (i j : Int), told one other = .tup [.str (tx e), .int i, .int j] ∧ i ≠ j ∧ PyData.strOk (tx e) = true := by
  rcases fnd_ne hn hm _ 0 rfl (fun s _ hl => by
    have : s = [] := List.length_eq_zero_iff.mp (by omega)
    rw [this, wy_empty]; rfl) with h | ⟨e, i, j, h1, h2, h3⟩
  · exact .inl h.1
  · exact .inr ⟨e, i, j, h1, h2, tx_ok fun x hx => lts_ok (hn.con.app hm).nf x (h3.subset hx)⟩
end NL

/-! < of data; sorted of data, by an own key too. -/
namespace NL
open PySem PySem.Spec L2
open PyProof.Rows hiding St
/-! ### the order of data -/
def py (d : D) : PyData := toPy 20 d
def dlt (d e : D) : Bool := PySem.W.dataLt (py d) (py e)
def dle (d e : D) : Bool := !dlt e d
def lik (d e : D) : Prop := PySem.W.alike (py d) (py e) = true
def sorD (xs : List D) : List D := xs.mergeSort dle
/-- what can be sorted -/
def Srt1 (xs : List D) : Prop := (∀ x ∈ xs, nb 20 x = true) ∧ (∀ x ∈ xs, ∀ y ∈ xs, lik x y) ∧ PySem.W.Sortable (xs.map py)
section
variable {X : Cx}
theorem op_ltD (hu : X.A.units + 64 < cLine) : OpR X (compareOp .Lt) (fun x y H Q => ∃ d e, Dp X.K H x d ∧ Dp X.K H y e ∧ PySem.W.alike d e = true ∧ d ≠ .none ∧ d.depth ≤ 40 ∧ Q (.bl (PySem.W.dataLt d e)) H) := by
  intro pins s σ H x y v u Q I rx ry h
  obtain ⟨d, e, hd, he, ha, hn, hz, q⟩ := h
  obtain ⟨as, r1⟩ := Dp.reads I d x v hd rx
  obtain ⟨bs, r2⟩ := Dp.reads I e y u he ry
  exact PySem.W.rcLt_alike d e X.A s v u as bs r1 r2 ha hn (by omega) X.prog X.w _ _ ⟨.bl _, H, I, rfl, q⟩
theorem py_depth {d : D} (h : nb 20 d = true) : (py d).depth ≤ 20 := (nb_shape 20 d h).2
end
variable [KC]
section
variable {X : Cx}
def gLtD : D → D → (D → Prop) → Prop := fun d e Q => (nb 20 d = true ∧ nb 20 e = true) ∧ lik d e ∧ isN d = false ∧ Q (.bl (dlt d e))
theorem py_non {d : D} (h : nb 20 d = true) (n : isN d = false) : py d ≠ .none := by
  cases d <;> simp_all [nb, isN, py, toPy]
theorem dLtD {k : Nat} (hr : Room k X.A) (hK : X.K = KC.K := by rfl) : OpD X (compareOp .Lt) gLtD := by
  refine ⟨_, op_ltD hr.units, fun d e Q h H S u v Q' sh hd he k => ?_⟩
  obtain ⟨⟨n1, n2⟩, h1, h2, q⟩ := h
  exact ⟨_, _, nb_dp 20 _ u n1 (hd.full sh), nb_dp 20 _ v n2 (he.full sh), h1, py_non n1 h2, Nat.le_trans (py_depth n1) (by decide), k _ _ H S q (.refl sh) .b⟩
/-! ### sorted(xs) -/
omit [KC] in
theorem dpAll_each {pins : List (Addr × Obj)} {σ : L2.St} {H : Hp} {s : Shared} (I : Inv X pins σ H s) : ∀ (ds : List D) (vs : List V) (us : List Value), (∀ d ∈ ds, nb 20 d = true) → (∀ (i : Nat) (d : D) (v : V), ds[i]? = some d → vs[i]? = some v → Dp X.K H v (py d)) → Vals vs us → ds.length = vs.length →
    PySem.W.EachIs (fun u d => ∃ as, Reads s.heap u (py d) as) us ds
  | [], [], us, _, _, r, _ => by cases r; exact .nil
  | [], _ :: _, _, _, _, _, e => by simp at e
  | _ :: _, [], _, _, _, _, e => by simp at e
  | d :: ds, v :: vs, _, hn, hd, .cons r t, e => by
    obtain ⟨as, z⟩ := Dp.reads I (py d) v _ (hd 0 d v rfl rfl) r
    exact .cons ⟨as, z⟩ (dpAll_each I ds vs _ (fun d m => hn d (by simp [m])) (fun i d v h1 h2 => hd (i + 1) d v (by simpa using h1) (by simpa using h2)) t (by simpa using e))
omit [KC] in
/-- the values V of an arrangement -/
theorem each_back : ∀ {R : Value → (V × D) → Prop} {us : List Value} {ps : List (V × D)}, PySem.W.EachIs R us ps → (∀ u p, R u p → RelV p.1 u) → Vals (ps.map (·.1)) us
  | _, _, _, .nil, _ => .nil
  | _, _, _, .cons h t, f => .cons (f _ _ h) (each_back t f)
def rSortedD (K : PySem.W.Frag) : List V → Hp → VK → Prop := fun vs H Q => ∃ (a : Addr) (xs : List V) (ds : List D), vs = [V.ref a] ∧ SqL K H a xs ∧ xs.length = ds.length ∧ Srt1 ds ∧
  (∀ (i : Nat) (d : D) (v : V), ds[i]? = some d → xs[i]? = some v → Dp K H v (py d)) ∧
  ∀ p, H p = none → Q (.ref p) (upd H p (.lst (((xs.zip ds).mergeSort fun a b => dle a.2 b.2).map (·.1))))
omit [KC] in
theorem cr_sortedD {k : Nat} (hr : Room k X.A) : CallR X (.builtin "sorted") (rSortedD X.K) := by
  intro pins s σ H vs us Q I r h
  obtain ⟨a, xs, ds, rfl, hs, hl, ⟨hn, hal, hso⟩, hd, q⟩ := h
  obtain ⟨its, rv, hL, hz⟩ := I.list hs
  rw [Vals.ref1 r]
  have e1 := dpAll_each I ds xs its hn hd rv hl.symm
  have il : its.length = ds.length := by rw [← rv.length]; exact hl
  have e2 : PySem.W.EachIs (fun u (p : V × D) => RelV p.1 u ∧ ∃ as, Reads s.heap u (py p.2) as) its (xs.zip ds) := by
    refine PySem.W.EachIs.of_zip (by simp; omega) fun p hp => ?_
    obtain ⟨i, hi⟩ := List.mem_iff_getElem?.mp hp
    rw [List.getElem?_zip_eq_some] at hi
    obtain ⟨h1, h2⟩ := hi
    rw [List.getElem?_zip_eq_some] at h2
    obtain ⟨u, hu, ru⟩ := rv.get h2.1
    rw [h1] at hu
    cases hu
    exact ⟨ru, e1.zip (p.1, p.2.2) (List.mem_iff_getElem?.mpr ⟨i, by rw [List.getElem?_zip_eq_some]; exact ⟨h1, h2.2⟩⟩)⟩
  have em : (xs.zip ds).map (fun p => py p.2) = ds.map py := by
    rw [show (fun p : V × D => py p.2) = py ∘ Prod.snd from rfl, ← List.map_map, List.map_snd_zip (by omega)]
  have hm : ∀ p ∈ xs.zip ds, nb 20 p.2 = true := fun p hp => hn _ (List.of_mem_zip (a := p.1) (b := p.2) hp).2
  refine PySem.W.sorted_data (bs := xs.zip ds) (enc := fun p => py p.2) hL.isList e2 (e2.mono fun _ _ z => z.2) ?_ (by rw [em]; exact hso) (by simp; omega) (fun p hp => ?_) fun out ho h1 => ?_
  · rw [em]
    intro x hx y hy
    obtain ⟨x, mx, rfl⟩ := List.mem_map.mp hx
    obtain ⟨y, my, rfl⟩ := List.mem_map.mp hy
    exact hal x mx y my
  · have := py_depth (hm p hp)
    have := hr.units
    omega
  · have hv := each_back h1 fun _ _ z => z.1
    have es : PySem.W.dataLe false (fun p : V × D => py p.2) = fun a b => dle a.2 b.2 := rfl
    rw [es] at hv
    obtain ⟨ep, he'⟩ := PyProof.Rows.sortedAll_at s.heap its (List.toArray out)
    have hlen : ((((xs.zip ds).mergeSort fun a b => dle a.2 b.2).map (·.1))).length ≤ sizeLine := by simp; omega
    exact ⟨.ref _, upd H (s.heap.objs.size + 1) (.lst (((xs.zip ds).mergeSort fun a b => dle a.2 b.2).map (·.1))), I.laid (t' := s.toks) (fun _ _ => PyProof.Rows.sortedAll_old) (Nat.le_succ _) ⟨hlen, out, ep, hv, he'⟩, rfl, q _ (I.hok.fresh (Nat.le_succ _))⟩
def gSorted : List D → (List D → Prop) → Prop
  | [.lst xs], Q => Srt1 xs ∧ Q (sorD xs)
  | _, _ => False
omit [KC] in
theorem zip_sort (xs : List V) (ds : List D) (h : xs.length = ds.length) : ((xs.zip ds).mergeSort fun a b => dle a.2 b.2).map (·.2) = sorD ds := by
  unfold sorD
  rw [PySem.W.sort_maps (s := dle) (fun p : V × D => p.2) fun _ _ _ _ => rfl, List.map_snd_zip (by omega)]
theorem dats_perm {S : Hp} : ∀ {ps qs : List (V × D)}, ps.Perm qs → Dats S (qs.map (·.2)) (qs.map (·.1)) → Dats S (ps.map (·.2)) (ps.map (·.1)) := by
  have all : ∀ (qs : List (V × D)), Dats S (qs.map (·.2)) (qs.map (·.1)) ↔ ∀ p ∈ qs, Dat S p.2 p.1 := fun qs => by
    induction qs with
    | nil => simp; exact .nil
    | cons p qs ih =>
      constructor
      · intro h
        simp only [List.map_cons] at h
        unfold Dats at h
        obtain ⟨v, r, e, h1, h2⟩ := h
        cases e
        intro q hq
        rcases List.mem_cons.mp hq with z | z
        · rw [z]; exact h1
        · exact ih.mp h2 q z
      · intro h
        exact Dats.cons (h p (by simp)) (ih.mpr fun q hq => h q (by simp [hq]))
  intro ps qs hp h
  rw [all] at h ⊢
  exact fun p m => h p (hp.mem_iff.mp m)
theorem cSorted {k : Nat} (hr : Room k X.A) (hK : X.K = KC.K := by rfl) : CalF X (.builtin "sorted") gSorted := by
  refine ⟨_, cr_sortedD hr, fun ds Q h H S vs Q' sh hd k => ?_⟩
  unfold gSorted at h
  split at h
  · rename_i xs
    obtain ⟨hx, q⟩ := h
    obtain ⟨v, rfl, hz⟩ := hd.one
    obtain ⟨a, ws, rfl, r, z⟩ := hz
    refine ⟨a, ws, xs, rfl, .of r, z.len, hx, fun i d v h1 h2 => ?_, fun p hp => ?_⟩
    · obtain ⟨y, hy, hd⟩ := z.get h1
      rw [h2] at hy
      cases hy
      exact nb_dp 20 d v (hx.1 d (List.mem_of_getElem? h1)) (Dat.mono sh _ _ hd)
    · refine k (sorD xs) _ p q hp ?_
      rw [← zip_sort ws xs z.len]
      refine dats_perm (List.mergeSort_perm _ _) ?_
      have l := z.len
      rw [List.map_snd_zip (by omega), List.map_fst_zip (by omega)]
      exact z
  · exact h.elim
/-! ### a text in a list or tuple of texts -/
def strD : D → Bool
  | .str _ => true
  | _ => false
def hasS (s : Str) (xs : List D) : Bool := xs.any fun d => match d with
  | .str t => decide (t = s)
  | _ => false
theorem inV_str {S : Hp} {s : Str} : ∀ {xs : List D} {vs : List V}, Dats S xs vs → xs.all strD = true → vs.all flatV = true ∧ inV (.str s) vs = hasS s xs
  | [], vs, h, _ => by unfold Dats at h; subst h; exact ⟨rfl, rfl⟩
  | x :: xs, vs, h, f => by
    unfold Dats at h
    obtain ⟨v, r, rfl, h1, h2⟩ := h
    rw [List.all_cons, Bool.and_eq_true] at f
    obtain ⟨i1, i2⟩ := inV_str (s := s) h2 f.2
    cases x with
    | str t =>
      unfold Dat at h1
      subst h1
      refine ⟨by rw [List.all_cons, i1]; rfl, ?_⟩
      unfold inV hasS at i2 ⊢
      rw [List.any_cons, List.any_cons, i2]
      congr 1
    | _ => exact absurd (show false = true from f.1) (by decide)
def gInT (neg : Bool) : D → D → (D → Prop) → Prop
  | .str s, .lst xs, Q => xs.all strD = true ∧ Q (.bl (neg ^^ hasS s xs))
  | .str s, .tup xs, Q => xs.all strD = true ∧ Q (.bl (neg ^^ hasS s xs))
  | _, _, _ => False
theorem dInT (hK : X.K = KC.K := by rfl) : OpD X (compareOp .In) (gInT false) := by
  refine ⟨_, op_in_seq, fun d e Q h H S u v Q' sh hd he k => ?_⟩
  unfold gInT at h
  split at h
  · obtain ⟨f, q⟩ := h
    cases hd.s
    obtain ⟨a, ws, rfl, r, z⟩ := he
    obtain ⟨i1, i2⟩ := inV_str z f
    exact ⟨a, ws, rfl, .inl (.of r), rfl, i1, by rw [i2]; simpa using k _ _ H S q (.refl sh) .b⟩
  · obtain ⟨f, q⟩ := h
    cases hd.s
    simp only [BDat, Dat] at he
    obtain ⟨a, ws, rfl, r, z⟩ := he
    obtain ⟨i1, i2⟩ := inV_str z f
    exact ⟨a, ws, rfl, .inr (.of (sh _ _ r)), rfl, i1, by rw [i2]; simpa using k _ _ H S q (.refl sh) .b⟩
  · exact h.elim
theorem dNotInT (hK : X.K = KC.K := by rfl) : OpD X (compareOp .NotIn) (gInT true) := by
  refine ⟨_, op_notIn_seq, fun d e Q h H S u v Q' sh hd he k => ?_⟩
  unfold gInT at h
  split at h
  · obtain ⟨f, q⟩ := h
    cases hd.s
    obtain ⟨a, ws, rfl, r, z⟩ := he
    obtain ⟨i1, i2⟩ := inV_str z f
    exact ⟨a, ws, rfl, .inl (.of r), rfl, i1, by rw [i2]; simpa using k _ _ H S q (.refl sh) .b⟩
  · obtain ⟨f, q⟩ := h
    cases hd.s
    simp only [BDat, Dat] at he
    obtain ⟨a, ws, rfl, r, z⟩ := he
    obtain ⟨i1, i2⟩ := inV_str z f
    exact ⟨a, ws, rfl, .inr (.of (sh _ _ r)), rfl, i1, by rw [i2]; simpa using k _ _ H S q (.refl sh) .b⟩
  · exact h.elim
/-! ### t + u, tuples, none of them empty -/
def gAddT : D → D → (D → Prop) → Prop
  | .tup xs, .tup ys, Q => (xs ≠ [] ∧ ys ≠ [] ∧ xs.length + ys.length ≤ sizeLine) ∧ Q (.tup (xs ++ ys))
  | _, _, _ => False
theorem dCatT (hK : X.K = KC.K := by rfl) : OpD X (binaryOp .Add) gAddT := by
  refine ⟨_, op_catT, fun d e Q h H S u v Q' sh hd he k => ?_⟩
  unfold gAddT at h
  split at h
  · obtain ⟨⟨n1, n2, hl⟩, q⟩ := h
    simp only [BDat, Dat] at hd he
    obtain ⟨a, vs, rfl, r1, z1⟩ := hd
    obtain ⟨b, ws, rfl, r2, z2⟩ := he
    have l1 := z1.len
    have l2 := z2.len
    refine ⟨a, b, vs, ws, rfl, rfl, .of (sh _ _ r1), .of (sh _ _ r2), fun e => n1 (List.eq_nil_of_length_eq_zero (by rw [← l1, e]; rfl)), by omega, fun e => absurd (List.eq_nil_of_length_eq_zero (by rw [← l2, e]; rfl)) n2, fun _ p hp => ?_⟩
    obtain ⟨g, y⟩ := lay_tup sh hp (z1.app z2)
    exact k _ _ _ _ q g y
  · exact h.elim
/-! ### a new list made while a slot's own list is read as shared -/
theorem Rep.frzAt {F : Fr} {ρ : Ev} {σ : L2.St} {H S : Hp} {i : Nat} {c : Cn} {p : Addr} {o : HO} (r : Rep F ρ σ H S) (h : ρ[i]? = some (.own false c)) (e1 : σ[i]? = some (some (.ref p))) (e2 : S p = none) (e3 : H p = some o) (e4 : CnOk S c o) (h0 : F.H0 p = none) :
    Rep F (ρ.set i (.fz c.d)) σ H (upd S p o) := by
  have hl : i < ρ.length := (List.getElem?_eq_some_iff.mp h).1
  have ss : Same S (upd S p o) := same_upd e2
  refine ⟨⟨r.fg.hh, r.fg.al, r.fg.ss.trans ss, same_upd2 r.fg.sh e3, fun a ha => ?_, r.fg.ft, r.fg.tb⟩, by simp [r.len], fun j sl e => ?_, fun j k m1 m2 c1 c2 n q1 q2 => ?_⟩
  · rw [upd_ne (fun z => ha (by rw [z]; exact h0))]
    exact r.fg.nw a ha
  · by_cases z : i = j
    · subst z
      rw [List.getElem?_set_self hl] at e
      cases e
      exact ⟨.ref p, e1, CnOk.dat upd_same (e4.mono ss)⟩
    · rw [List.getElem?_set_ne z] at e
      have q := r.at' j sl e
      cases sl with
      | un => trivial
      | fz d =>
        obtain ⟨v, f1, f2⟩ := q
        exact ⟨v, f1, Dat.mono ss d v f2⟩
      | own m3 c3 =>
        obtain ⟨p3, o3, f1, f2, f3, f4, f5⟩ := q
        refine ⟨p3, o3, f1, ?_, f3, f4.mono ss, f5⟩
        rw [upd_ne (fun z3 => r.dist i j false m3 c c3 z h e (by rw [e1, f1, z3]))]
        exact f2
  · have conv : ∀ (l : Nat) (m4 : Bool) (c4 : Cn), (ρ.set i (.fz c.d))[l]? = some (.own m4 c4) → ρ[l]? = some (.own m4 c4) := fun l m4 c4 q => by
      by_cases z : i = l
      · subst z
        rw [List.getElem?_set_self hl] at q
        cases q
      · rw [List.getElem?_set_ne z] at q
        exact q
    exact r.dist j k _ _ _ _ n (conv _ _ _ q1) (conv _ _ _ q2)
def wThaw (i : Nat) (wl : WL) : WL := fun x ρ Q => match ρ[i]? with
  | some (.own false c) => wl x (ρ.set i (.fz c.d)) fun xs => nls xs = true ∧ Q xs
  | some (.fz _) => wl x ρ Q
  | _ => False
theorem df_thaw {E : XK} {e : Expr} {wl : WL} (i : Nat) (h : DF X E e wl) : DF X E e (wThaw i wl) := by
  obtain ⟨t, p, s⟩ := h.ex
  refine ⟨t, p, fun x ρ Q hw F σ H S Q' rp ex k => ?_⟩
  unfold wThaw at hw
  split at hw
  · rename_i c hi
    obtain ⟨p, o, e1, e2, e3, e4, _, e6⟩ := rp.own hi
    have nt : ∀ xs, o ≠ .tup xs := fun xs z => by
      subst z
      cases c with
      | lst ys => obtain ⟨vs, z, _⟩ := e4; cases z
      | dct ks ys => obtain ⟨vs, z, _⟩ := e4; cases z
      | obj _ _ ys => obtain ⟨dx, vs, z, _⟩ := e4; cases z
    have eP : upd S p o = plusS H S [.ref p] := by
      funext a
      unfold plusS upd
      by_cases z : a = p
      · subst z
        rw [if_pos rfl, if_pos ⟨e2, by simp [tops], o, e3, nt⟩, e3]
      · rw [if_neg z, if_neg (fun w => by have := w.2.1; simp [tops] at this; exact z this.symm)]
    have r2 := rp.frzAt hi e1 e2 e3 e4 (e6 rfl)
    rw [eP] at r2
    have x2 : ExOk X.mg E x H (plusS H S [.ref p]) := fun n C H' S' a b g => ex n C H' _ a b (minus_grow rp.sh g)
    refine s x _ _ hw F σ H _ _ r2 x2 fun xs q vs H' S' hq g h0 h1 h2 h3 => ?_
    refine k xs q vs H' (minusS H S S' [.ref p]) hq.2 (minus_grow rp.sh g) h0 ?_ h2 (minus_dats g xs vs hq.1 h3)
    unfold minusS
    split
    · rfl
    · exact h1
  · exact s x ρ Q hw F σ H S Q' rp ex k
  · exact hw.elim
/-! ### max(xs), min(xs) of whole numbers -/
def gMaxL : List D → (D → Prop) → Prop
  | [.lst xs], Q => ∃ ns : List Int, xs = ns.map D.int ∧ 0 < ns.length ∧ ∀ m, m ∈ ns → (∀ y ∈ ns, y ≤ m) → Q (.int m)
  | _, _ => False
theorem cMaxL (hc : X.calm = true) (hK : X.K = KC.K := by rfl) : CalD X (.builtin "max") gMaxL := by
  refine ⟨_, cr_max hc, fun ds Q h H S vs Q' sh hd k => ?_⟩
  unfold gMaxL at h
  split at h
  · obtain ⟨ns, rfl, hl, q⟩ := h
    obtain ⟨v, rfl, hz⟩ := hd.one
    obtain ⟨a, ws, rfl, r, z⟩ := hz
    have := z.ofInts
    subst this
    exact ⟨a, ns, rfl, .of r, hl, fun m h1 h2 => k _ _ H S (q m h1 h2) (.refl sh) .i⟩
  · exact h.elim
end
end NL

/-! Moves. -/
namespace NL
open PySem PySem.Spec L2
open PyProof.Rows hiding St
/-- a cord of some nails -/
def On (l : List Nat) (c : List Pc) : Prop := ∀ p ∈ c, ∃ y ∈ l, p.1 = tx [y]
theorem on_app {l : List Nat} {a b : List Pc} (h : On l a) (g : On l b) : On l (a ++ b) := fun p hp => (List.mem_append.mp hp).elim (h p) (g p)
theorem on_con {l : List Nat} {a : List Pc} (h : On l a) : On l (con a) := fun p hp => by
  obtain ⟨q, hq, rfl⟩ := List.mem_map.mp hp
  exact h q (List.mem_reverse.mp hq)
theorem bd_app {b : Int} {a c : List Pc} (h : ∀ p ∈ a, -b ≤ p.2 ∧ p.2 ≤ b) (g : ∀ p ∈ c, -b ≤ p.2 ∧ p.2 ≤ b) : ∀ p ∈ a ++ c, -b ≤ p.2 ∧ p.2 ≤ b := fun p hp => (List.mem_append.mp hp).elim (h p) (g p)
theorem bd_con {b : Int} {a : List Pc} (h : ∀ p ∈ a, -b ≤ p.2 ∧ p.2 ≤ b) : ∀ p ∈ con a, -b ≤ p.2 ∧ p.2 ≤ b := fun p hp => by
  obtain ⟨q, hq, rfl⟩ := List.mem_map.mp hp
  have := h q (List.mem_reverse.mp hq)
  exact ⟨by show -b ≤ -q.2; omega, by show -q.2 ≤ b; omega⟩
def widP (n : Str) (p : Pc) : Int := if p.1 = n then 2 * (if p.2 < 0 then -p.2 else p.2) else 1
def wid (n : Str) (c : List Pc) : Int := (c.map (widP n)).sum
inductive Mv where
  | turn (a : Nat) | change (a b : Nat) | slide (a b : Nat) (k : Int)
def dMv : Mv → D
  | .turn a => .tup [.str "turn", .str (tx [a])]
  | .change a b => .tup [.str "change", .str (tx [a]), .str (tx [b])]
  | .slide a b k => .tup [.str "slide", .str (tx [a]), .str (tx [b]), .int k]
def slP (a b : Nat) (k : Int) (p : Pc) : List Pc := if p.1 = tx [a] then (if p.2 < 0 then (List.replicate (-p.2).toNat [(tx [b], -k), (tx [a], -1)]).flatten else (List.replicate p.2.toNat [(tx [a], 1), (tx [b], k)]).flatten) else [p]
/-- what a move makes of a cord, nothing put together -/
def mvs : Mv → List Pc → List Pc
  | .turn a, c => c.map fun p => if p.1 = tx [a] then (p.1, -p.2) else p
  | .change a b, c => c.map fun p => (if p.1 = tx [a] then tx [b] else if p.1 = tx [b] then tx [a] else p.1, p.2)
  | .slide a b k, c => (c.map (slP a b k)).flatten
def MvOk : Mv → Prop
  | .turn a => 97 ≤ a ∧ a ≤ 122
  | .change a b => 97 ≤ a ∧ a ≤ 122 ∧ 97 ≤ b ∧ b ≤ 122 ∧ a ≠ b
  | .slide a b k => 97 ≤ a ∧ a ≤ 122 ∧ 97 ≤ b ∧ b ≤ 122 ∧ a ≠ b ∧ -2 ≤ k ∧ k ≤ 2
theorem nail_mk {a : Nat} (h : 97 ≤ a) (g : a ≤ 122) : isNail (tx [a]) := ⟨a, rfl, h, g⟩
theorem mvs_nl {m : Mv} {c : List Pc} (h : MvOk m) (g : Nl c) : Nl (mvs m c) := fun p hp => by
  cases m with
  | turn a =>
    obtain ⟨q, hq, rfl⟩ := List.mem_map.mp hp
    split <;> exact g q hq
  | change a b =>
    obtain ⟨q, hq, rfl⟩ := List.mem_map.mp hp
    simp only
    split
    · exact nail_mk h.2.2.1 h.2.2.2.1
    · split
      · exact nail_mk h.1 h.2.1
      · exact g q hq
  | slide a b k =>
    obtain ⟨l, hl, hp⟩ := List.mem_flatten.mp hp
    obtain ⟨q, hq, rfl⟩ := List.mem_map.mp hl
    unfold slP at hp
    split at hp
    · split at hp
      · have := rep_mem hp
        simp only [List.mem_cons, List.not_mem_nil, or_false] at this
        rcases this with rfl | rfl
        · exact nail_mk h.2.2.1 h.2.2.2.1
        · exact nail_mk h.1 h.2.1
      · have := rep_mem hp
        simp only [List.mem_cons, List.not_mem_nil, or_false] at this
        rcases this with rfl | rfl
        · exact nail_mk h.1 h.2.1
        · exact nail_mk h.2.2.1 h.2.2.2.1
    · rw [List.mem_singleton] at hp
      rw [hp]
      exact g q hq
theorem slP_len (a b : Nat) (k : Int) (p : Pc) : ((slP a b k p).length : Int) = widP (tx [a]) p := by
  unfold slP widP
  split
  · split
    · rw [rep_len]
      simp only [List.length_cons, List.length_nil]
      omega
    · rw [rep_len]
      simp only [List.length_cons, List.length_nil]
      omega
  · rfl
theorem mvs_len (a b : Nat) (k : Int) : ∀ c : List Pc, ((mvs (.slide a b k) c).length : Int) = wid (tx [a]) c
  | [] => rfl
  | p :: c => by
    have ih := mvs_len a b k c
    have e := slP_len a b k p
    simp only [mvs, wid, List.map_cons, List.flatten_cons, List.length_append, List.sum_cons] at ih ⊢
    omega
theorem widP_nn (n : Str) (p : Pc) : 0 ≤ widP n p := by
  unfold widP
  split
  · split <;> omega
  · omega
theorem slP_zero (a b : Nat) (p : Pc) (w : List Pc) (hw : Red w) : act (slP a b 0 p) w = act [p] w := by
  have one : ∀ (m : Nat) (w : List Pc), Red w → act (List.replicate m [((tx [a] : Str), (1 : Int)), (tx [b], 0)]).flatten w = ps (tx [a], (m : Int)) w := fun m => by
    induction m with
    | zero => intro w _; show w = _; rw [show ((0 : Nat) : Int) = 0 by rfl, ps_zero]
    | succ m ih =>
      intro w hw
      rw [List.replicate_succ, List.flatten_cons, act_app, ih w hw]
      show ps (tx [a], 1) (ps (tx [b], 0) (ps (tx [a], (m : Int)) w)) = _
      rw [ps_zero, ps_ps hw]
      congr 2
      omega
  have two : ∀ (m : Nat) (w : List Pc), Red w → act (List.replicate m [((tx [b] : Str), (-0 : Int)), (tx [a], -1)]).flatten w = ps (tx [a], -(m : Int)) w := fun m => by
    induction m with
    | zero => intro w _; show w = _; rw [show -((0 : Nat) : Int) = 0 by rfl, ps_zero]
    | succ m ih =>
      intro w hw
      rw [List.replicate_succ, List.flatten_cons, act_app, ih w hw]
      show ps (tx [b], -0) (ps (tx [a], -1) (ps (tx [a], -(m : Int)) w)) = _
      rw [show (-0 : Int) = 0 by rfl, ps_zero, ps_ps hw]
      congr 2
      omega
  unfold slP
  split
  · rename_i h
    have ep : p = (tx [a], p.2) := Prod.ext h rfl
    split
    · rw [two _ _ hw]
      show _ = ps p w
      rw [ep]
      congr 2
      simp only
      omega
    · rw [one _ _ hw]
      show _ = ps p w
      rw [ep]
      congr 2
      simp only
      omega
  · rfl
theorem slide_zero (a b : Nat) : ∀ c : List Pc, Eqv (mvs (.slide a b 0) c) c
  | [] => .refl _
  | p :: c => by
    have ih := slide_zero a b c
    have : Eqv (slP a b 0 p ++ mvs (.slide a b 0) c) ([p] ++ c) := Eqv.app (fun w hw => slP_zero a b p w hw) ih
    exact this
def mvN (r : List Pc) (m : Mv) : List Pc := nf (mvs m r)
/-- the moves can be done one after the other -/
def Fit : List Pc → List Mv → Prop
  | _, [] => True
  | r, m :: ms => (MvOk m ∧ r.length ≤ 100000 ∧ Nl r ∧ Tb r ∧ ∀ a b k, m = .slide a b k → wid (tx [a]) r ≤ 4000) ∧ Fit (mvN r m) ms
theorem Fit.ok : ∀ {ms : List Mv} {r : List Pc}, Fit r ms → ∀ m ∈ ms, MvOk m
  | [], _, _ => fun _ h => by cases h
  | m :: ms, r, h => fun m' h' => by
    rcases List.mem_cons.mp h' with z | z
    · rw [z]; exact h.1.1
    · exact Fit.ok h.2 m' z
theorem Fit.snoc : ∀ {ms : List Mv} {r : List Pc} {m : Mv}, Fit r ms → Fit (ms.foldl mvN r) [m] → Fit r (ms ++ [m])
  | [], _, _, _, g => g
  | _ :: _, _, _, h, g => ⟨h.1, Fit.snoc h.2 g⟩
theorem filter_len {l : List Nat} {y : Nat} (hy : y ∈ l) (hn : l.Nodup) : (l.filter fun z => decide (z ≠ y)).length = l.length - 1 := by
  induction l with
  | nil => cases hy
  | cons z l ih =>
    rw [List.nodup_cons] at hn
    rw [List.filter_cons]
    by_cases h : z = y
    · subst h
      have : l.filter (fun w => decide (w ≠ z)) = l := List.filter_eq_self.mpr fun w hw => decide_eq_true fun e => hn.1 (e ▸ hw)
      rw [if_neg (by simp), this]
      simp
    · rw [if_pos (by simpa using h), List.length_cons, List.length_cons, ih ((List.mem_cons.mp hy).resolve_left fun e => h e.symm) hn.2]
      have : l ≠ [] := fun e => by
        rw [e] at hy
        simp at hy
        exact h hy.symm
      have := List.length_pos_iff.mpr this
      omega
/-! how great the turns grow -/
def tot (c : List Pc) : Nat := (c.map fun p => p.2.natAbs).sum
theorem tot_cons (p : Pc) (c : List Pc) : tot (p :: c) = p.2.natAbs + tot c := by simp [tot]
theorem tot_app (a b : List Pc) : tot (a ++ b) = tot a + tot b := by simp [tot]
theorem tot_mem : ∀ {c : List Pc} {p : Pc}, p ∈ c → p.2.natAbs ≤ tot c
  | q :: c, p, h => by
    rw [tot_cons]
    rcases List.mem_cons.mp h with e | e
    · rw [e]; omega
    · have := tot_mem e; omega
theorem tot_ps (p : Pc) (w : List Pc) : tot (ps p w) ≤ p.2.natAbs + tot w := by
  unfold ps
  split
  · omega
  · cases w with
    | nil => simp [tot]
    | cons l r =>
      simp only
      split
      · split
        · rw [tot_cons]; omega
        · rw [tot_cons, tot_cons]
          simp only
          omega
      · rw [tot_cons]; omega
theorem tot_nf : ∀ c : List Pc, tot (nf c) ≤ tot c
  | [] => Nat.le_refl _
  | p :: c => by
    have h := tot_nf c
    have g := tot_ps p (nf c)
    rw [tot_cons]
    show tot (ps p (nf c)) ≤ _
    omega
theorem tot_rep (m : Nat) (p q : Pc) : tot (List.replicate m [p, q]).flatten = m * (p.2.natAbs + q.2.natAbs) := by
  induction m with
  | zero => simp [tot]
  | succ m ih =>
    rw [List.replicate_succ, List.flatten_cons, tot_app, ih, Nat.succ_mul]
    simp [tot]
    omega
theorem tot_mvs {m : Mv} (h : MvOk m) : ∀ c : List Pc, tot (mvs m c) ≤ 3 * tot c
  | [] => by cases m <;> simp [mvs, tot]
  | p :: c => by
    have ih := tot_mvs h c
    rw [tot_cons]
    cases m with
    | turn a =>
      have : tot (mvs (.turn a) (p :: c)) = (if p.1 = tx [a] then (p.1, -p.2) else p).2.natAbs + tot (mvs (.turn a) c) := by simp [mvs, tot]
      rw [this]
      split
      · simp only [Int.natAbs_neg]; omega
      · omega
    | change a b =>
      have : tot (mvs (.change a b) (p :: c)) = p.2.natAbs + tot (mvs (.change a b) c) := by simp [mvs, tot]
      omega
    | slide a b k =>
      have : tot (mvs (.slide a b k) (p :: c)) = tot (slP a b k p) + tot (mvs (.slide a b k) c) := by
        rw [← tot_app]; rfl
      have hk := h.2.2.2.2.2
      have key : tot (slP a b k p) ≤ 3 * p.2.natAbs := by
        unfold slP
        split
        · split
          · rw [tot_rep]
            simp only
            have e1 : (-k).natAbs + (-1 : Int).natAbs ≤ 3 := by omega
            have e2 : (-p.2).toNat ≤ p.2.natAbs := by omega
            calc _ ≤ p.2.natAbs * 3 := Nat.mul_le_mul e2 e1
              _ = _ := by omega
          · rw [tot_rep]
            simp only
            have e1 : (1 : Int).natAbs + k.natAbs ≤ 3 := by omega
            have e2 : p.2.toNat ≤ p.2.natAbs := by omega
            calc _ ≤ p.2.natAbs * 3 := Nat.mul_le_mul e2 e1
              _ = _ := by omega
        · simp [tot]; omega
      omega
theorem tot_mvN {m : Mv} (h : MvOk m) (c : List Pc) : tot (mvN c m) ≤ 3 * tot c := Nat.le_trans (tot_nf _) (tot_mvs h c)
theorem tot_tb {c : List Pc} (h : tot c ≤ 2 ^ 120) : Tb c := fun p hp => Nat.le_trans (tot_mem hp) h
theorem tot_of {b : Nat} : ∀ {c : List Pc}, (∀ p ∈ c, p.2.natAbs ≤ b) → tot c ≤ c.length * b
  | [], _ => by simp [tot]
  | p :: c, h => by
    have := tot_of (c := c) fun q hq => h q (by simp [hq])
    have := h p (by simp)
    rw [tot_cons, List.length_cons, Nat.succ_mul]
    omega
theorem mvs_len0 {m : Mv} (hm : ∀ a b k, m ≠ .slide a b k) (c : List Pc) : (mvs m c).length = c.length := by
  cases m with
  | turn a => simp [mvs]
  | change a b => simp [mvs]
  | slide a b k => exact absurd rfl (hm a b k)
theorem On.nl {l : List Nat} {c : List Pc} (h : On l c) (g : Lt l) : Nl c := fun p hp => by
  obtain ⟨y, hy, e⟩ := h p hp
  exact ⟨y, e, g y hy⟩
/-! a move keeps what cords do -/
theorem slW_succ {a b : Nat} {k t : Int} {w : List Pc} (hw : Red w) : act (slP a b k (tx [a], t + 1)) w = act [(tx [a], 1), (tx [b], k)] (act (slP a b k (tx [a], t)) w) := by
  have back : ∀ u, Red u → act [((tx [a] : Str), (1 : Int)), (tx [b], k)] (act [(tx [b], -k), (tx [a], -1)] u) = u := fun u hu => by
    rw [← act_app]
    exact eqv_con [(tx [a], 1), (tx [b], k)] u hu
  unfold slP
  simp only [if_true]
  by_cases h : t < 0
  · have e : (-t).toNat = (-(t + 1)).toNat + 1 := by omega
    rw [if_pos h, e, List.replicate_succ, List.flatten_cons, act_app, back _ (act_red hw)]
    split
    · rfl
    · have e1 : (t + 1).toNat = 0 := by omega
      have e2 : (-(t + 1)).toNat = 0 := by omega
      rw [e1, e2]
      rfl
  · rw [if_neg h, if_neg (by omega), show (t + 1).toNat = t.toNat + 1 by omega, List.replicate_succ, List.flatten_cons, act_app]
theorem slW_add (a b : Nat) (k s t : Int) : Eqv (slP a b k (tx [a], s + t)) (slP a b k (tx [a], s) ++ slP a b k (tx [a], t)) := by
  intro w hw
  rw [act_app]
  refine up_down (p := fun s => act (slP a b k (tx [a], s + t)) w = act (slP a b k (tx [a], s)) (act (slP a b k (tx [a], t)) w)) ?_ (fun s => ?_) s
  · rw [Int.zero_add]
    unfold slP
    simp
    rfl
  · rw [show s + 1 + t = s + t + 1 by omega, slW_succ hw, slW_succ (act_red hw)]
    refine ⟨fun h => by rw [h], fun h => ?_⟩
    have bk : ∀ u, Red u → act (con [((tx [a] : Str), (1 : Int)), (tx [b], k)]) (act [(tx [a], 1), (tx [b], k)] u) = u := fun u hu => by
      rw [← act_app]
      exact eqv_con' [(tx [a], 1), (tx [b], k)] u hu
    have g := congrArg (act (con [((tx [a] : Str), (1 : Int)), (tx [b], k)])) h
    rwa [bk _ (act_red hw), bk _ (act_red (act_red hw))] at g
theorem mvs_app (m : Mv) (a b : List Pc) : mvs m (a ++ b) = mvs m a ++ mvs m b := by
  cases m <;> simp [mvs]
theorem mvs_one (m : Mv) (p : Pc) (c : List Pc) : mvs m (p :: c) = mvs m [p] ++ mvs m c := mvs_app m [p] c
theorem mvs_part (m : Mv) (n : Str) (s t : Int) : Eqv (mvs m [(n, s + t)]) (mvs m [(n, s)] ++ mvs m [(n, t)]) := by
  cases m with
  | turn a =>
    simp only [mvs, List.map_cons, List.map_nil]
    split
    · exact eqv_part (by omega)
    · exact eqv_part rfl
  | change a b =>
    simp only [mvs, List.map_cons, List.map_nil]
    exact eqv_part rfl
  | slide a b k =>
    simp only [mvs, List.map_cons, List.map_nil, List.flatten_cons, List.flatten_nil, List.append_nil]
    by_cases h : n = tx [a]
    · subst h
      exact slW_add a b k s t
    · unfold slP
      simp only [if_neg h]
      exact eqv_part rfl
theorem mvs_zero (m : Mv) (n : Str) : Eqv (mvs m [(n, 0)]) [] := by
  cases m with
  | turn a =>
    simp only [mvs, List.map_cons, List.map_nil]
    split
    · exact eqv_zero.symm
    · exact eqv_zero.symm
  | change a b =>
    simp only [mvs, List.map_cons, List.map_nil]
    exact eqv_zero.symm
  | slide a b k =>
    simp only [mvs, List.map_cons, List.map_nil, List.flatten_cons, List.flatten_nil, List.append_nil]
    unfold slP
    split
    · simp only [Int.lt_irrefl, if_false]
      exact .refl _
    · exact eqv_zero.symm
theorem mvs_ps (m : Mv) (p : Pc) (w : List Pc) : Eqv (mvs m (ps p w)) (mvs m [p] ++ mvs m w) := by
  have hp : p = (p.1, p.2) := rfl
  unfold ps
  split
  · rename_i h
    rw [hp, h]
    exact ((mvs_zero m p.1).app (Eqv.refl (mvs m w))).symm
  · cases w with
    | nil =>
      have : mvs m [] = [] := by cases m <;> rfl
      simp only [this, List.append_nil]
      exact .refl _
    | cons l r =>
      simp only
      split
      · rename_i e
        have el : l = (p.1, l.2) := Prod.ext e rfl
        have key : Eqv (mvs m [(p.1, p.2 + l.2)] ++ mvs m r) (mvs m [p] ++ mvs m (l :: r)) := by
          rw [mvs_one m l r, ← List.append_assoc]
          refine Eqv.app ?_ (.refl _)
          rw [el]
          exact mvs_part m p.1 p.2 l.2
        split
        · rename_i hs
          rw [hs] at key
          exact ((mvs_zero m p.1).symm.app (Eqv.refl (mvs m r))).trans key
        · rw [mvs_one]
          exact key
      · rw [mvs_one m p (l :: r)]
        exact .refl _
theorem mvs_nf (m : Mv) : ∀ c : List Pc, Eqv (mvs m c) (mvs m (nf c))
  | [] => by cases m <;> exact .refl _
  | p :: c => by
    have ih := mvs_nf m c
    have h := mvs_ps m p (nf c)
    rw [mvs_one]
    exact ((Eqv.refl (mvs m [p])).app ih).trans h.symm
theorem mvs_eqv (m : Mv) {c d : List Pc} (h : Eqv c d) : Eqv (mvs m c) (mvs m d) := by
  have := mvs_nf m d
  rw [← h.nf] at this
  exact (mvs_nf m c).trans this.symm
theorem mvN_nf (m : Mv) (c : List Pc) : mvN (nf c) m = nf (mvs m c) := (mvs_nf m c).nf.symm
theorem mvs_con (m : Mv) (c : List Pc) : Eqv (mvs m (con c)) (con (mvs m c)) := by
  have h1 : Eqv (mvs m (con c) ++ mvs m c) [] := by
    rw [← mvs_app]
    have := mvs_eqv m (eqv_con' c)
    have e : mvs m [] = [] := by cases m <;> rfl
    rwa [e] at this
  have h2 : Eqv (mvs m (con c)) (mvs m (con c) ++ (mvs m c ++ con (mvs m c))) := by
    have := (Eqv.refl (mvs m (con c))).app (eqv_con (mvs m c)).symm
    simpa using this
  rw [← List.append_assoc] at h2
  have h3 := h1.app (Eqv.refl (con (mvs m c)))
  exact h2.trans h3
/-- the move that undoes a move -/
def inv : Mv → Mv
  | .slide a b k => .slide a b (-k)
  | m => m
theorem inv_ok {m : Mv} (h : MvOk m) : MvOk (inv m) := by
  cases m with
  | slide a b k => exact ⟨h.1, h.2.1, h.2.2.1, h.2.2.2.1, h.2.2.2.2.1, by have := h.2.2.2.2.2; omega, by have := h.2.2.2.2.2; omega⟩
  | _ => exact h
theorem inv_inv (m : Mv) : inv (inv m) = m := by
  cases m with
  | slide a b k => show Mv.slide a b (- -k) = _; rw [Int.neg_neg]
  | _ => rfl
theorem mvs_rep (m : Mv) (n : Nat) (w : List Pc) : mvs m (List.replicate n w).flatten = (List.replicate n (mvs m w)).flatten := by
  induction n with
  | zero => cases m <;> rfl
  | succ n ih => rw [List.replicate_succ, List.replicate_succ, List.flatten_cons, List.flatten_cons, mvs_app, ih]
theorem rep_eqv {u v : List Pc} (h : Eqv u v) : ∀ n, Eqv (List.replicate n u).flatten (List.replicate n v).flatten
  | 0 => .refl _
  | n + 1 => by
    rw [List.replicate_succ, List.replicate_succ, List.flatten_cons, List.flatten_cons]
    exact h.app (rep_eqv h n)
theorem rep_pc (n : Str) (j : Int) : ∀ m : Nat, Eqv (List.replicate m [((n, j) : Pc)]).flatten [(n, m * j)]
  | 0 => by
    show Eqv [] _
    rw [show ((0 : Nat) : Int) * j = 0 by simp]
    exact eqv_zero
  | m + 1 => by
    rw [List.replicate_succ, List.flatten_cons]
    refine ((Eqv.refl [(n, j)]).app (rep_pc n j m)).trans ?_
    exact (eqv_part (by rw [show ((m + 1 : Nat) : Int) = (m : Int) + 1 by omega, Int.add_mul]; omega)).symm
theorem tx_ne {a b : Nat} (h : a ≠ b) : ¬ tx [a] = tx [b] := fun e => h (by simpa [tx_inj] using e)
theorem inv_one {m : Mv} (h : MvOk m) (p : Pc) : Eqv (mvs (inv m) (mvs m [p])) [p] := by
  cases m with
  | turn a =>
    simp only [inv, mvs, List.map_cons, List.map_nil]
    by_cases e : p.1 = tx [a]
    · simp only [if_pos e, Int.neg_neg]
      exact .refl _
    · simp only [if_neg e]
      exact .refl _
  | change a b =>
    have hn := tx_ne h.2.2.2.2
    simp only [inv, mvs, List.map_cons, List.map_nil]
    by_cases e : p.1 = tx [a]
    · simp only [if_pos e, if_neg (fun z => hn (Eq.symm z)), if_true]
      rw [← e]
      exact .refl _
    · by_cases e' : p.1 = tx [b]
      · simp only [if_neg e, if_pos e', if_true]
        rw [← e']
        exact .refl _
      · simp only [if_neg e, if_neg e']
        exact .refl _
  | slide a b k =>
    have hn := tx_ne h.2.2.2.2.1
    have hn' := tx_ne (Ne.symm h.2.2.2.2.1)
    by_cases e : p.1 = tx [a]
    · have one : Eqv (mvs (.slide a b (-k)) [(tx [a], 1), (tx [b], k)]) [(tx [a], 1)] := by
        have e1 : mvs (.slide a b (-k)) [(tx [a], 1), (tx [b], k)] = [(tx [a], 1), (tx [b], -k), (tx [b], k)] := by
          simp [mvs, slP, hn']
        rw [e1]
        have := (Eqv.refl [((tx [a] : Str), (1 : Int))]).app ((eqv_part (n := tx [b]) (a := -k) (b := k) (t := 0) (by omega)).symm.trans eqv_zero.symm)
        simpa using this
      have two : Eqv (mvs (.slide a b (-k)) [(tx [b], -k), (tx [a], -1)]) [(tx [a], -1)] := by
        have e1 : mvs (.slide a b (-k)) [(tx [b], -k), (tx [a], -1)] = [(tx [b], -k), (tx [b], k), (tx [a], -1)] := by
          simp [mvs, slP, hn']
        rw [e1]
        have := ((eqv_part (n := tx [b]) (a := -k) (b := k) (t := 0) (by omega)).symm.trans eqv_zero.symm).app (Eqv.refl [((tx [a] : Str), (-1 : Int))])
        simpa using this
      have ep : p = (tx [a], p.2) := Prod.ext e rfl
      have em : mvs (.slide a b k) [p] = slP a b k p := by simp [mvs]
      rw [em]
      unfold slP
      rw [if_pos e]
      split
      · show Eqv (mvs (.slide a b (-k)) _) _
        rw [mvs_rep]
        refine (rep_eqv two _).trans ((rep_pc _ _ _).trans ?_)
        rw [ep]
        rw [show (((-p.2).toNat : Nat) : Int) * -1 = p.2 by omega]
        exact .refl _
      · show Eqv (mvs (.slide a b (-k)) _) _
        rw [mvs_rep]
        refine (rep_eqv one _).trans ((rep_pc _ _ _).trans ?_)
        rw [ep]
        rw [show ((p.2.toNat : Nat) : Int) * 1 = p.2 by omega]
        exact .refl _
    · have em : ∀ k, mvs (.slide a b k) [p] = [p] := fun k => by simp [mvs, slP, e]
      rw [em]
      show Eqv (mvs (.slide a b (-k)) [p]) [p]
      rw [em]
      exact .refl _
theorem inv_eqv {m : Mv} (h : MvOk m) : ∀ c : List Pc, Eqv (mvs (inv m) (mvs m c)) c
  | [] => by cases m <;> exact .refl _
  | p :: c => by
    rw [mvs_one m p c, mvs_app]
    exact (inv_one h p).app (inv_eqv h c)
theorem inv_mvN {m : Mv} (h : MvOk m) {r : List Pc} (hr : Red r) : mvN (mvN r m) (inv m) = r := by
  show nf (mvs (inv m) (nf (mvs m r))) = r
  rw [(mvs_eqv (inv m) (eqv_nf (mvs m r)).symm).nf, (inv_eqv h r).nf, red_nf hr]
theorem mvN_red (r : List Pc) (m : Mv) : Red (mvN r m) := nf_red _
theorem fold_red : ∀ (ms : List Mv) {r : List Pc}, Red r → Red (ms.foldl mvN r)
  | [], _, h => h
  | m :: ms, r, _ => fold_red ms (mvN_red r m)
/-- moved there and back -/
theorem fold_back : ∀ (ms : List Mv) {r : List Pc}, (∀ m ∈ ms, MvOk m) → Red r → (ms.reverse.map inv).foldl mvN (ms.foldl mvN r) = r
  | [], r, _, _ => rfl
  | m :: ms, r, h, hr => by
    rw [List.reverse_cons, List.map_append, List.foldl_append, List.foldl_cons, fold_back ms (fun m' h' => h m' (by simp [h'])) (mvN_red r m)]
    exact inv_mvN (h m (by simp)) hr
theorem foldN_app : ∀ (ms : List Mv) (u v : List Pc), ms.foldl mvN (nf (u ++ v)) = nf (ms.foldl mvN (nf u) ++ ms.foldl mvN (nf v))
  | [], u, v => nf_app2 u v
  | m :: ms, u, v => by
    simp only [List.foldl_cons, mvN_nf, mvs_app]
    exact foldN_app ms _ _
theorem foldN_con : ∀ (ms : List Mv) (u : List Pc), ms.foldl mvN (nf (con u)) = con (ms.foldl mvN (nf u))
  | [], u => nf_con_nf u
  | m :: ms, u => by
    simp only [List.foldl_cons, mvN_nf]
    rw [(mvs_con m u).nf]
    exact foldN_con ms _
theorem foldN_inj {ms : List Mv} (h : ∀ m ∈ ms, MvOk m) {u v : List Pc} (e : ms.foldl mvN (nf u) = ms.foldl mvN (nf v)) : nf u = nf v := by
  have h1 := fold_back ms h (nf_red u)
  have h2 := fold_back ms h (nf_red v)
  rw [← h1, e, h2]
end NL

/-! The order of cords; cords led by others: rings. -/
namespace NL
open PySem PySem.Spec L2
open PyProof.Rows hiding St
theorem Br.yes {A B : Prop} {s : Tg A} {t : Tg B} (h : A) : Br true A B s t := h
theorem Br.no {A B : Prop} {s : Tg A} {t : Tg B} (h : B) : Br false A B s t := h
theorem rngD_nat {n : Nat} : (rng 0 1 n).map D.int = (List.range n).map fun i : Nat => D.int i := by simp [rng, Function.comp_def]
/-! ### the order -/
abbrev plt (a b : List Pc) : Bool := PySem.W.DatumOrd.lt (α := List (Str × Int)) a b
theorem ord_tri {α : Type} [DecidableEq α] [PySem.W.DatumOrd α] {a b : α} (h : PySem.W.DatumOrd.lt a b = false) (g : PySem.W.DatumOrd.lt b a = false) : a = b := by
  rw [← PySem.W.DatumOrd.lt_eq] at h g
  have e := PyProof.Rows.lex_total (O := PyProof.Rows.itemOrd) _ _ h g
  apply Decidable.byContradiction
  intro n
  have d : PyData.eqv (PySem.W.Datum.toD a) (PySem.W.Datum.toD b) = false := by rw [PySem.W.Datum.eqv]; simp [n]
  have z := (PySem.W.toks_eqv _ _ (PySem.W.DatumOrd.alike a b)).2 d [] [.inl 0]
  rw [e] at z
  have z1 := PySem.W.lex_pre (PySem.W.keyToks (PySem.W.Datum.toD b)) [] [.inl 0]
  rw [z1, PyProof.Rows.lex_irrefl] at z
  exact absurd z (by decide)
theorem ord_irr {α : Type} [DecidableEq α] [PySem.W.DatumOrd α] (a : α) : PySem.W.DatumOrd.lt a a = false := by
  rw [← PySem.W.DatumOrd.lt_eq]
  exact PySem.W.dataLt_self _
theorem ord_trans {α : Type} [DecidableEq α] [PySem.W.DatumOrd α] {a b c : α} (h : PySem.W.DatumOrd.lt a b = true) (g : PySem.W.DatumOrd.lt b c = true) : PySem.W.DatumOrd.lt a c = true := by
  rw [← PySem.W.DatumOrd.lt_eq] at h g ⊢
  exact PyProof.Rows.lex_trans _ _ _ h g
/-- what is not below b is not below what is below b -/
theorem ord_low {α : Type} [DecidableEq α] [PySem.W.DatumOrd α] {x a b : α} (h : PySem.W.DatumOrd.lt a b = true) (g : PySem.W.DatumOrd.lt x b = false) : PySem.W.DatumOrd.lt x a = false := by
  cases e : PySem.W.DatumOrd.lt x a with
  | false => rfl
  | true => rw [ord_trans e h] at g; exact g
theorem py_dC (c : List Pc) : py (dC c) = PySem.W.Datum.toD (α := List (Str × Int)) c := by
  show PyData.list _ = PyData.list _
  congr 1
  induction c with
  | nil => rfl
  | cons p c ih =>
    show _ :: _ = _ :: _
    congr 1
theorem dlt_dC (a b : List Pc) : dlt (dC a) (dC b) = plt a b := by
  unfold dlt
  rw [py_dC, py_dC]
  exact PySem.W.DatumOrd.lt_eq a b
theorem lik_dC (a b : List Pc) : lik (dC a) (dC b) := by
  unfold lik
  rw [py_dC, py_dC]
  exact PySem.W.DatumOrd.alike a b
/-! ### begun at another piece -/
def Rot (a b : List Pc) : Prop := ∃ x y, a = x ++ y ∧ b = y ++ x
theorem Rot.refl (a : List Pc) : Rot a a := ⟨[], a, rfl, by simp⟩
theorem Rot.symm {a b : List Pc} (h : Rot a b) : Rot b a := by
  obtain ⟨x, y, e, f⟩ := h
  exact ⟨y, x, f, e⟩
theorem Rot.trans {a b c : List Pc} (h : Rot a b) (g : Rot b c) : Rot a c := by
  obtain ⟨x, y, rfl, rfl⟩ := h
  obtain ⟨u, v, e, rfl⟩ := g
  rcases List.append_eq_append_iff.mp e with ⟨w, h1, h2⟩ | ⟨w, h1, h2⟩
  · subst h1 h2
    exact ⟨w, v ++ y, by simp, by simp⟩
  · subst h1 h2
    exact ⟨x ++ u, w, by simp, by simp⟩
theorem Rot.len {a b : List Pc} (h : Rot a b) : b.length = a.length := by
  obtain ⟨x, y, rfl, rfl⟩ := h
  simp [Nat.add_comm]
theorem Rot.mem {a b : List Pc} (h : Rot a b) {p : Pc} (hp : p ∈ b) : p ∈ a := by
  obtain ⟨x, y, rfl, rfl⟩ := h
  simp at hp ⊢
  exact hp.symm
theorem rot_at (a : List Pc) (k : Nat) : Rot a (a.drop k ++ a.take k) := ⟨a.take k, a.drop k, by simp, rfl⟩
theorem Rot.cut {a b : List Pc} (h : Rot a b) : b = a ∨ ∃ k, k < a.length ∧ b = a.drop k ++ a.take k := by
  obtain ⟨x, y, rfl, rfl⟩ := h
  cases y with
  | nil => exact .inl (by simp)
  | cons p y => exact .inr ⟨x.length, by simp, by simp⟩
/-! ### runs with unlike ends -/
theorem red_join : ∀ {a b : List Pc}, Red a → Red b → (∀ p q, a.getLast? = some p → b.head? = some q → p.1 ≠ q.1) → Red (a ++ b)
  | [], _, _, h, _ => h
  | [p], b, h, g, n => Red.mk h (fun q e => n p q rfl e) g
  | p :: q :: r, b, h, g, n => ⟨h.1, h.2.1, red_join (a := q :: r) h.2.2 g fun s t e f => n s t (by rw [List.getLast?_cons_cons]; exact e) f⟩
theorem red_part1 : ∀ {a b : List Pc}, Red (a ++ b) → Red a
  | [], _, _ => trivial
  | [p], b, h => by
    cases b with
    | nil => exact h
    | cons q r => exact h.1
  | p :: q :: a, b, h => ⟨h.1, h.2.1, red_part1 (a := q :: a) h.2.2⟩
theorem red_part2 : ∀ {a b : List Pc}, Red (a ++ b) → Red b
  | [], _, h => h
  | p :: a, b, h => red_part2 (a := a) h.tail
theorem red_meet : ∀ {a b : List Pc} {p q : Pc}, Red (a ++ b) → a.getLast? = some p → b.head? = some q → p.1 ≠ q.1
  | [], _, _, _, _, e, _ => by simp at e
  | [s], b, p, q, h, e, f => by
    cases b with
    | nil => simp at f
    | cons t b =>
      simp at e f
      subst e f
      exact h.2.1
  | s :: t :: a, b, p, q, h, e, f => red_meet (a := t :: a) h.2.2 (by rw [List.getLast?_cons_cons] at e; exact e) f
theorem red_end {a : List Pc} {g g' : Pc} (h : Red (a ++ [g])) (e : g'.1 = g.1) (n : g'.2 ≠ 0) : Red (a ++ [g']) :=
  red_join (red_part1 h) n fun p q h1 h2 => by
    simp at h2
    subst h2
    rw [e]
    exact red_meet h h1 rfl
def Cyc (i : List Pc) : Prop := Red i ∧ (2 ≤ i.length → ∀ p q, i.head? = some p → i.getLast? = some q → p.1 ≠ q.1)
theorem Cyc.rt {a b : List Pc} (c : Cyc a) (h : Rot a b) : Cyc b := by
  obtain ⟨x, y, rfl, rfl⟩ := h
  rcases x with _ | ⟨p, x⟩
  · simpa using c
  rcases y with _ | ⟨q, y⟩
  · simpa using c
  refine ⟨red_join (red_part2 c.1) (red_part1 c.1) fun s t e f => ?_, fun _ s t e f => ?_⟩
  · refine (c.2 (by simp; omega) t s ?_ ?_).symm
    · simpa using f
    · rw [List.getLast?_append, e]; rfl
  · have f' : (p :: x).getLast? = some t := by
      rw [List.getLast?_append] at f
      simpa [List.getLast?_cons] using f
    have e' : (q :: y).head? = some s := by simpa using e
    exact (red_meet c.1 f' e').symm
theorem no_ends {u v m : List Pc} {p q : Pc} (hu : u.head? = some p) (hv : v.head? = some q) (e : p.1 = q.1) : ¬ Cyc (u ++ m ++ con v) := fun c => by
  cases u with
  | nil => simp at hu
  | cons p' u =>
    cases v with
    | nil => simp at hv
    | cons q' v =>
      simp at hu hv
      subst hu hv
      refine c.2 (by simp [con_cons]; omega) p' (q'.1, -q'.2) (by simp) (by rw [con_cons, ← List.append_assoc, List.getLast?_append]; rfl) e
theorem head_app {u : List Pc} {p q : Pc} (e : p.1 = q.1) : ∃ a b : Pc, (u ++ [p]).head? = some a ∧ (u ++ [q]).head? = some b ∧ a.1 = b.1 := by
  cases u with
  | nil => exact ⟨p, q, rfl, rfl, e⟩
  | cons s u => exact ⟨s, s, rfl, rfl, rfl⟩
theorem con_head {u : List Pc} {p : Pc} : (con (u ++ [p])).head? = some (p.1, -p.2) := by simp [con]
theorem conj_rot0 : ∀ (n : Nat) (u i j : List Pc), u.length = n → Red u → Cyc i → Cyc j → nf (u ++ i ++ con u) = j → Rot i j
  | 0, u, i, j, hn, _, hi, _, e => by
    have : u = [] := List.length_eq_zero_iff.mp hn
    subst this
    have e' : nf i = j := by simpa [con] using e
    rw [red_nf hi.1] at e'
    rw [e']
    exact .refl _
  | n + 1, u, i, j, hn, hu, hi, hj, e => by
    rcases List.eq_nil_or_concat u with z | ⟨v, p, z⟩
    · rw [z] at hn; simp at hn
    rw [List.concat_eq_append] at z
    subst z
    have hv : v.length = n := by simpa using hn
    have rv : Red v := red_part1 hu
    have p0 : p.2 ≠ 0 := red_part2 hu
    have ih := fun i' h1 h2 => conj_rot0 n v i' j hv rv h1 hj h2
    have sp : v ++ [p] ++ i ++ con (v ++ [p]) = v ++ ([p] ++ i ++ [(p.1, -p.2)]) ++ con v := by rw [con_app]; simp [con]
    have whole : Red (v ++ [p] ++ i ++ con (v ++ [p])) → i ≠ [] → False := fun r _ => by
      rw [red_nf r] at e
      obtain ⟨a, b, h1, h2, h3⟩ := head_app (u := v) (p := p) (q := p) rfl
      rw [← e] at hj
      exact no_ends h1 h2 h3 hj
    rcases i with _ | ⟨a, i⟩
    · have : nf (v ++ [p] ++ con (v ++ [p])) = j := by simpa using e
      rw [nf_con] at this
      rw [← this]
      exact .refl _
    rcases List.eq_nil_or_concat i with z | ⟨m, b, z⟩
    · subst z
      by_cases ha : a.1 = p.1
      · refine ih [a] hi ?_
        rw [sp] at e
        refine Eq.trans (nf_mid v (con v) ?_) e
        intro w r
        obtain ⟨n1, t1⟩ := p
        obtain ⟨n2, t2⟩ := a
        simp only at ha
        subst ha
        simp only [List.cons_append, List.nil_append, act_cons, act_nil]
        rw [ps_ps r, ps_ps r, show t1 + (t2 + -t1) = t2 by omega]
      · refine (whole ?_ (by simp)).elim
        refine red_join (red_join hu hi.1 fun s t h1 h2 => ?_) (con_red hu) fun s t h1 h2 => ?_
        · simp at h1 h2
          subst h1 h2
          exact fun z => ha z.symm
        · rw [con_head] at h2
          simp at h1 h2
          subst h1 h2
          exact ha
    · rw [List.concat_eq_append] at z
      subst z
      have hab : a.1 ≠ b.1 := hi.2 (by simp) a b rfl (by rw [← List.cons_append, List.getLast?_append]; rfl)
      by_cases ha : a.1 = p.1
      · by_cases hs : p.2 + a.2 = 0
        · have ea : a = (p.1, -p.2) := by
            obtain ⟨n2, t2⟩ := a
            simp at ha hs ⊢
            exact ⟨ha, by omega⟩
          have rt : Rot (a :: (m ++ [b])) (m ++ [b] ++ [a]) := ⟨[a], m ++ [b], rfl, rfl⟩
          refine rt.trans (ih _ (hi.rt rt) ?_)
          rw [sp] at e
          refine Eq.trans (nf_mid v (con v) ?_) e
          rw [ea]
          have : Eqv ([p] ++ [(p.1, -p.2)]) [] := eqv_one p
          have := (this.app (Eqv.refl (m ++ [b] ++ [(p.1, -p.2)]))).symm
          simpa using this
        · exfalso
          have w : Red ((v ++ [(p.1, p.2 + a.2)]) ++ (m ++ [b]) ++ con (v ++ [p])) := by
            refine red_join (red_join (red_end hu rfl hs) hi.1.tail fun s t h1 h2 => ?_) (con_red hu) fun s t h1 h2 => ?_
            · rw [List.getLast?_append] at h1
              simp only [List.getLast?_singleton, Option.some_or, Option.some.injEq] at h1
              subst h1
              simp only
              rw [← ha]
              exact red_meet (a := [a]) hi.1 rfl h2
            · rw [con_head] at h2
              rw [← List.append_assoc, List.getLast?_append] at h1
              simp only [List.getLast?_singleton, Option.some_or, Option.some.injEq] at h1 h2
              subst h1 h2
              simp only
              rw [← ha]
              exact hab.symm
          have e2 : nf (v ++ [p] ++ (a :: (m ++ [b])) ++ con (v ++ [p])) = nf ((v ++ [(p.1, p.2 + a.2)]) ++ (m ++ [b]) ++ con (v ++ [p])) := by
            have q : Eqv ([p] ++ [a]) [(p.1, p.2 + a.2)] := by
              intro w r
              obtain ⟨n1, t1⟩ := p
              obtain ⟨n2, t2⟩ := a
              simp only at ha
              subst ha
              simp only [List.cons_append, List.nil_append, act_cons, act_nil]
              rw [ps_ps r]
            have := nf_mid v (m ++ [b] ++ con (v ++ [p])) q
            simpa using this
          rw [e2, red_nf w] at e
          obtain ⟨c, d, h1, h2, h3⟩ := head_app (u := v) (p := ((p.1, p.2 + a.2) : Pc)) (q := p) rfl
          rw [← e] at hj
          exact no_ends h1 h2 h3 hj
      · by_cases hb : b.1 = p.1
        · by_cases hs : b.2 - p.2 = 0
          · have eb : b = p := by
              obtain ⟨n2, t2⟩ := b
              obtain ⟨n1, t1⟩ := p
              simp at hb hs ⊢
              exact ⟨hb, by omega⟩
            subst eb
            have rt : Rot (a :: (m ++ [b])) ([b] ++ (a :: m)) := ⟨a :: m, [b], by simp, rfl⟩
            refine rt.trans (ih _ (hi.rt rt) ?_)
            rw [sp] at e
            refine Eq.trans (nf_mid v (con v) ?_) e
            have : Eqv ([b] ++ [(b.1, -b.2)]) [] := eqv_one b
            have := ((Eqv.refl ([b] ++ (a :: m))).app this).symm
            simpa using this
          · exfalso
            have hu2 : Red (v ++ [((p.1, -(b.2 - p.2)) : Pc)]) := red_end hu rfl (by show -(b.2 - p.2) ≠ 0; omega)
            have ra : Red (a :: m) := red_part1 (a := a :: m) (b := [b]) (by simpa using hi.1)
            have w : Red ((v ++ [p]) ++ (a :: m) ++ con (v ++ [((p.1, -(b.2 - p.2)) : Pc)])) := by
              refine red_join (red_join hu ra fun s t h1 h2 => ?_) (con_red hu2) fun s t h1 h2 => ?_
              · simp at h1 h2
                subst h1 h2
                exact fun z => ha z.symm
              · rw [con_head] at h2
                simp only [Option.some.injEq] at h2
                subst h2
                simp only
                rw [← hb]
                refine red_meet (a := a :: m) (b := [b]) (by simpa using hi.1) ?_ rfl
                rw [List.getLast?_append] at h1
                simpa [List.getLast?_cons] using h1
            have e2 : nf (v ++ [p] ++ (a :: (m ++ [b])) ++ con (v ++ [p])) = nf ((v ++ [p]) ++ (a :: m) ++ con (v ++ [((p.1, -(b.2 - p.2)) : Pc)])) := by
              have q : Eqv ([b] ++ [(p.1, -p.2)]) [(p.1, b.2 - p.2)] := by
                intro w r
                obtain ⟨n1, t1⟩ := p
                obtain ⟨n2, t2⟩ := b
                simp only at hb
                subst hb
                simp only [List.cons_append, List.nil_append, act_cons, act_nil]
                rw [ps_ps r, show t2 + -t1 = t2 - t1 by omega]
              have := nf_mid (v ++ [p] ++ (a :: m)) (con v) q
              simpa [con, Int.neg_sub] using this
            rw [e2, red_nf w] at e
            obtain ⟨c, d, h1, h2, h3⟩ := head_app (u := v) (p := p) (q := ((p.1, -(b.2 - p.2)) : Pc)) rfl
            rw [← e] at hj
            exact no_ends h1 h2 h3 hj
        · refine (whole ?_ (by simp)).elim
          refine red_join (red_join hu hi.1 fun s t h1 h2 => ?_) (con_red hu) fun s t h1 h2 => ?_
          · simp at h1 h2
            subst h1 h2
            exact fun z => ha z.symm
          · rw [con_head] at h2
            have : s = b := by
              rw [List.getLast?_append, ← List.cons_append, List.getLast?_append] at h1
              simpa using h1.symm
            simp only [Option.some.injEq] at h2
            subst this h2
            exact hb
theorem nf_led (u i : List Pc) : nf (nf u ++ i ++ con (nf u)) = nf (u ++ i ++ con u) :=
  ((((eqv_nf u).symm.app (.refl i))).app (by rw [← nf_con_nf]; exact (eqv_nf (con u)).symm)).nf
/-- b is a led about -/
def Cj (a b : List Pc) : Prop := ∃ u, nf (u ++ a ++ con u) = nf b
theorem conj_rot {i j : List Pc} (hi : Cyc i) (hj : Cyc j) (h : Cj i j) : Rot i j := by
  obtain ⟨u, e⟩ := h
  refine conj_rot0 (nf u).length (nf u) i j rfl (nf_red u) hi hj ?_
  rw [← red_nf hj.1, ← e]
  exact ((((eqv_nf u).symm.app (.refl i))).app (by rw [← nf_con_nf]; exact (eqv_nf (con u)).symm)).nf
theorem Cj.of {a b : List Pc} (h : nf a = nf b) : Cj a b := ⟨[], by simpa [con] using h⟩
theorem Cj.trans {a b c : List Pc} (h : Cj a b) (g : Cj b c) : Cj a c := by
  obtain ⟨u, e⟩ := h
  obtain ⟨v, f⟩ := g
  refine ⟨v ++ u, ?_⟩
  rw [← f]
  have := nf_mid v (con v) (nf_eqv e)
  simpa [con_app] using this
theorem Cj.symm {a b : List Pc} (h : Cj a b) : Cj b a := by
  obtain ⟨u, e⟩ := h
  refine ⟨con u, ?_⟩
  have h1 := nf_mid (con u) (con (con u)) (nf_eqv e).symm
  rw [h1, con_con]
  have h2 := (((eqv_con' u).app (Eqv.refl a)).app (eqv_con' u)).nf
  simpa using h2
theorem Rot.cj {a b : List Pc} (h : Rot a b) : Cj a b := by
  obtain ⟨x, y, rfl, rfl⟩ := h
  refine ⟨con x, ?_⟩
  rw [con_con]
  have := ((eqv_con' x).app (Eqv.refl (y ++ x))).nf
  simpa using this
theorem rot_led (o c : List Pc) : Cj c (o ++ c ++ con o) := ⟨o, rfl⟩
/-- the least of all beginnings -/
def Lst (i m : List Pc) : Prop := Rot i m ∧ ∀ x, Rot i x → plt x m = false
theorem Lst.eq {i j m n : List Pc} (h : Lst i m) (g : Lst j n) (r : Rot i j) : m = n :=
  ord_tri (g.2 m (r.symm.trans h.1)) (h.2 n (r.trans g.1))
def IsRing (c m : List Pc) : Prop := ∃ i, Cyc i ∧ Cj i c ∧ Lst i m
theorem IsRing.eq {c d m n : List Pc} (h : IsRing c m) (g : IsRing d n) (r : Cj c d) : m = n := by
  obtain ⟨i, ci, hi, li⟩ := h
  obtain ⟨j, cj, hj, lj⟩ := g
  exact li.eq lj (conj_rot ci cj ((hi.trans r).trans hj.symm))
theorem IsRing.cj {c m : List Pc} (h : IsRing c m) : Cj m c := by
  obtain ⟨i, ci, hi, li⟩ := h
  exact li.1.cj.symm.trans hi
theorem IsRing.cyc {c m : List Pc} (h : IsRing c m) : Cyc m := by
  obtain ⟨i, ci, hi, li⟩ := h
  exact ci.rt li.1
theorem IsRing.own {c m : List Pc} (h : IsRing c m) : IsRing m m := by
  obtain ⟨i, ci, hi, li⟩ := h
  exact ⟨m, ci.rt li.1, .of rfl, .refl _, fun x r => li.2 x (li.1.trans r)⟩
/-- a least one among the first n beginnings -/
def Low (i : List Pc) (n k : Nat) : Prop := k ≤ i.length ∧ ∀ j, j < n → plt (i.drop j ++ i.take j) (i.drop k ++ i.take k) = false
theorem Low.all {i : List Pc} {k : Nat} (h : Low i i.length k) : Lst i (i.drop k ++ i.take k) := by
  refine ⟨rot_at i k, fun x r => ?_⟩
  rcases r.cut with z | ⟨j, hj, z⟩
  · subst z
    cases x with
    | nil => simp; exact ord_irr _
    | cons p x =>
      have := h.2 0 (by simp)
      simpa using this
  · subst z
    exact h.2 j hj
/-! ### name = f(..), a new list or a thing -/
variable [KC]
section
variable {X : Cx} {E : XK} {e : Expr} {es : List Expr} {pos p : Pos} {wl : WL} {k : Nat} {f : Addr} {fd : FuncData} {ps : List Str} {sp : Spec} {x : Str}
def setV (q : DEnds) (ρ : Ev) (i : Nat) : Rt → Prop
  | .new (.lst xs) => q.nx (ρ.set i (.own false (.lst xs)))
  | .new _ => False
  | .val d => q.nx (ρ.set i (.fz d))
  | .newT d => q.nx (ρ.set i (.fz d))
def wsSetV (i : Nat) (sp : Spec) (wl : WL) : WS := fun q ρ => wl q.ex ρ fun ds => Ask sp ds q.ex (setV q ρ i) ⟨⟩
theorem sd_setV (i : Nat) {y : Str} {p2 spos : Pos} (hN : X.N.Nodup) (G : FnOk X.prog X.w X.K X.mg X.base (L2.CX X.prog X.w) k f fd ps (spOf X.mg sp)) (hr : Room k X.A) (xk : XOk X E) (hg : Gl X x) (hm : X.mg x = some (.ref f)) (hk : PySem.W.keepIn X.K (.ref f) = true) (hb : Binds X.K fd ps [])
    (ha : AD X E (e :: es) wl) (hdb : (x == ("__debug__" : Str)) = false := by decide) (he : starEach (e :: es) X.env = (false, eval e X.env) :: starEach es X.env := by rfl) (hpl : (backTo pos (starEach es X.env)).any (·.1) = false := by rfl)
    (hi : X.N[i]? = some y := by rfl) (hx : Loc X.env.scope y := by first | exact Or.inl rfl | exact Or.inr rfl) (hs : swapsWith (.Call (.Name x p) (e :: es) [] pos) (some (.Name y p2)) spos.line X.env = pure false := by rfl)
    (hf : X.fn y = true ∨ X.env.scope.names.lookup y = some .local := by first | exact .inl rfl | exact .inr rfl) : SD X E (.Assign [.Name y p2] (.Call (.Name x p) (e :: es) [] pos) spos) (wsSetV i sp wl) := by
  obtain ⟨t, pt, s⟩ := ha.ex
  refine ⟨_, ps_set hN hi hx (pe_call G hr hg hm hk hb .nil xk.pass pt hdb he hpl) hs hf, fun q ρ hw F σ H S D rp o => ?_⟩
  refine s q.ex ρ _ hw F σ H S _ rp (o.exOk rp) fun ds vs H1 S1 q1 g1 h1 => ?_
  refine ⟨ds, S1, q.ex, _, ⟨g1.sh, (rp.grow g1).fg.tb⟩, by rw [List.append_nil]; exact h1, q1, fun r v H2 S2 q2 g2 h2 => ?_, fun n C H2 S2 xn hC g2 => (o.exOk rp) n C H2 S2 xn hC (g1.trans g2)⟩
  cases r with
  | val d => exact o.nx _ _ H2 S2 q2 ((rp.grow (g1.trans g2)).set h2)
  | newT d => exact o.nx _ _ H2 S2 q2 ((rp.grow (g1.trans g2)).set h2.1)
  | new c =>
    cases c with
    | dct _ _ => exact q2.elim
    | obj _ _ _ => exact q2.elim
    | lst xs =>
      obtain ⟨p, u, rfl, z0, z1, z2, ws, rfl, z3⟩ := h2
      exact o.nx _ _ H2 S2 q2 ((rp.grow (g1.trans g2)).setOwn z1 z2 ⟨ws, rfl, z3⟩ (fg_free rp.fg (g1.freeH z0)) (own_ne rp (g1.freeH z0)))
end
end NL

/-! Errors caught: try .. except C as e, isinstance of e, defs that e is handed to. -/
namespace NL
open PySem PySem.Spec L2
open PyProof.Rows hiding St
/-- whether an error of the class n is one of the class m -/
def isSubN (n m : Str) : Bool := decide (m = "HangError") || decide (n = m)
/-- the own classes: what isinstance and except ask of them -/
def AskT (K : PySem.W.Frag) (mg : Str → Option Value) (an : List Str) : Prop :=
  ∀ m ∈ an, ∃ D, mg m = some (.ref D) ∧ PySem.W.typeIn K (.ref D) = some (.type "type") ∧ PySem.W.hasDictIn K D = true ∧ PySem.W.subIn K (.ref D) (.type "BaseException") = some true
def ErrT (K : PySem.W.Frag) (mg : Str → Option Value) (cn an : List Str) : Prop :=
  ∀ n ∈ cn, ∃ C, mg n = some (.ref C) ∧ L2.ExcC K C ∧ PySem.W.subIn K (.ref C) (.type "ValueError") = some true ∧ PySem.W.subIn K (.ref C) (.ref C) = some true ∧ ∀ m ∈ an, ∃ D, mg m = some (.ref D) ∧ PySem.W.subIn K (.ref C) (.ref D) = some (isSubN n m)
theorem all_nil {P : Str → Prop} : ∀ n ∈ ([] : List Str), P n := fun _ h => by cases h
theorem all_cons {P : Str → Prop} {m : Str} {l : List Str} (h : P m) (g : ∀ n ∈ l, P n) : ∀ n ∈ m :: l, P n := fun n hn => by
  rcases List.mem_cons.mp hn with rfl | hn
  · exact h
  · exact g n hn
theorem kit_ref {K : PySem.W.Frag} {C D : Addr} {b : Bool} (h1 : PySem.W.subIn K (.ref C) (.ref C) = some true) (ht : PySem.W.typeIn K (.ref D) = some (.type "type")) (hd : PySem.W.hasDictIn K D = true) (h : PySem.W.subIn K (.ref C) (.ref D) = some b) :
    PySem.W.kitOne K (.ref C) (.ref D) = some b := by
  unfold PySem.W.kitOne
  by_cases e : C = D
  · subst e
    rw [if_pos (beq_self_eq_true _), ← h1, h]
  · rw [if_neg (fun z => e (Value.ref.inj (beq_iff_eq.mp z)))]
    obtain ⟨cd, hc, _⟩ := PySem.W.any_some hd
    have e2 : ((PySem.W.clsIn K D).isSome && PySem.W.typeIn K (.ref D) == some (.type "type")) = true := by rw [hc, ht] <;> rfl
    show (if ((PySem.W.clsIn K D).isSome && PySem.W.typeIn K (.ref D) == some (.type "type")) = true then PySem.W.subIn K (.ref C) (.ref D) else none) = some b
    rw [if_pos e2, h]
theorem kit_val {K : PySem.W.Frag} {C : Addr} (h : PySem.W.subIn K (.ref C) (.type "ValueError") = some true) : PySem.W.kitOne K (.ref C) (.type "ValueError") = some true := by
  unfold PySem.W.kitOne
  rw [if_neg (fun z => by cases (beq_iff_eq.mp z))]
  show (if PySem.W.kitMeta "ValueError" = true then PySem.W.subIn K (.ref C) (.type "ValueError") else none) = some true
  rw [if_pos (by decide +kernel), h]
/-- p's error, of the class at C, is at hand -/
structure ErrP (p : Addr × Obj) (C : Addr) : Prop where
  z : Zc (.ref C) none p.2
  f : ∃ vs, p.2.data = .fields vs
/-- the context knows the error at a, of the class n -/
def HotE (X : Cx) (a : Addr) (n : Str) : Prop := ∃ (p : Addr × Obj) (C : Addr), p ∈ X.pn ∧ p.1 = a ∧ X.mg n = some (.ref C) ∧ ErrP p C
theorem call_isP {X : Cx} {p : Addr × Obj} {C : Addr} (hp : p ∈ X.pn) (c : L2.ExcC X.K C) (e : ErrP p C) : CallR X (.builtin "isinstance") (rIsE X.K C p.1) := by
  intro pins s σ H xs us Q inv rel hyp
  obtain ⟨cl, cv, ans, rfl, tell, kit, fin⟩ := hyp
  match rel with
  | .cons ra (.cons rb .nil) =>
    obtain rfl := tell _ rb
    cases ra
    have at1 := (inv.pin p (List.mem_append_left _ hp)).1
    have inst : PySem.W.InstAt s.heap p.1 p.2 C none := by
      obtain ⟨a, o⟩ := p
      obtain ⟨⟨z1, z2⟩, vs, z3⟩ := e
      cases o
      simp only at z1 z2 z3
      subst z1 z2 z3
      exact ⟨at1, rfl, rfl, trivial⟩
    have kx := PySem.W.handS_kitx_exc (x := p.1) (ox := p.2) c.hg c.hk c.hs c.hd c.ha c.hn c.ht c.hm
    exact PySem.W.kia_one kx inv.kIn inst kit (fun z => nomatch z) (fun tk => ⟨.bl ans, H, inv.kept (t' := tk) (fun _ _ w => w), rfl, fin⟩)
section
variable [KC] {X : Cx} {E : XK} {e : Expr} {es : List Expr} {pos p q : Pos} {wa : WE} {wl : WL} {cn an : List Str} {a : Addr} {n m x : Str}
def wIsE (a : Addr) (n m : Str) (wa : WE) : WE := fun x ρ Q => wa x ρ fun d => d = .ref a ∧ Q (.bl (isSubN n m))
def wIsV (a : Addr) (wa : WE) : WE := fun x ρ Q => wa x ρ fun d => d = .ref a ∧ Q (.bl true)
theorem ed_isE (hx : HotE X a n) (er : ErrT X.K X.mg cn an) (ak : AskT X.K X.mg an) (hn : n ∈ cn) (hm : m ∈ an) (hg : Gl X "isinstance") (hmi : X.mg "isinstance" = none) (hgm : Gl X m) (hdm : (m == ("__debug__" : Str)) = false) (ha : ED X E e wa)
    (he : starEach (e :: [.Name m q]) X.env = (false, eval e X.env) :: starEach [.Name m q] X.env := by rfl) (he2 : starEach [.Name m q] X.env = (false, eval (.Name m q) X.env) :: starEach [] X.env := by rfl) (hpl : (backTo pos (starEach [.Name m q] X.env)).any (·.1) = false := by rfl) :
    ED X E (.Call (.Name "isinstance" p) [e, .Name m q] [] pos) (wIsE a n m wa) := by
  obtain ⟨t, pt, s⟩ := ha.ex
  obtain ⟨r, C, hr, rfl, hC, err⟩ := hx
  obtain ⟨C', g1, g2, g3, g4, g5⟩ := er n hn
  obtain ⟨D, d1, d2⟩ := g5 m hm
  obtain ⟨D', d3, d4, d5, _⟩ := ak m hm
  rw [hC] at g1
  cases g1
  rw [d1] at d3
  cases d3
  have pT : PE X (.Name m q) (tC (.ref D)) := pe_glob hgm d1 rfl hdm
  refine ⟨_, pe_callB (call_isP hr g2 err) hg hmi (by decide +kernel) (pa_cons pt (pa_cons pT pa_nil he2) he) (by decide) (by decide) he hpl, fun x ρ Q hw F σ H S Q' rp ex k => ?_⟩
  refine s x ρ _ hw F σ H S _ rp ex fun d u H1 S1 q1 g1 h1 => ?_
  obtain ⟨rfl, q2⟩ := q1
  unfold Dat at h1
  subst h1
  exact ⟨.ref D, .ref D, _, rfl, fun u hu => hu, kit_ref g4 d4 d5 d2, k _ _ H1 S1 q2 g1 .b⟩
theorem ed_isV (hx : HotE X a n) (er : ErrT X.K X.mg cn an) (hn : n ∈ cn) (hg : Gl X "isinstance") (hmi : X.mg "isinstance" = none) (hgm : Gl X "ValueError") (hmv : X.mg "ValueError" = none) (ha : ED X E e wa)
    (he : starEach (e :: [.Name "ValueError" q]) X.env = (false, eval e X.env) :: starEach [.Name "ValueError" q] X.env := by rfl) (he2 : starEach [.Name "ValueError" q] X.env = (false, eval (.Name "ValueError" q) X.env) :: starEach [] X.env := by rfl) (hpl : (backTo pos (starEach [.Name "ValueError" q] X.env)).any (·.1) = false := by rfl) :
    ED X E (.Call (.Name "isinstance" p) [e, .Name "ValueError" q] [] pos) (wIsV a wa) := by
  obtain ⟨t, pt, s⟩ := ha.ex
  obtain ⟨r, C, hr, rfl, hC, err⟩ := hx
  obtain ⟨C', g1, g2, g3, g4, g5⟩ := er n hn
  rw [hC] at g1
  cases g1
  have pT : PE X (.Name "ValueError" q) (tC (.ty "ValueError")) := pe_bltn hgm hmv (by decide +kernel) rfl (by decide) (by decide)
  refine ⟨_, pe_callB (call_isP hr g2 err) hg hmi (by decide +kernel) (pa_cons pt (pa_cons pT pa_nil he2) he) (by decide) (by decide) he hpl, fun x ρ Q hw F σ H S Q' rp ex k => ?_⟩
  refine s x ρ _ hw F σ H S _ rp ex fun d u H1 S1 q1 g1 h1 => ?_
  obtain ⟨rfl, q2⟩ := q1
  unfold Dat at h1
  subst h1
  exact ⟨.ty "ValueError", .type "ValueError", _, rfl, fun u hu => hu, kit_val g3, k _ _ H1 S1 q2 g1 .b⟩
end
/-! ### a def that an error is handed to, while it is handled -/
structure FnE (P : Program) (w : World) (K : PySem.W.Frag) (mg : Str → Option Value) (base : Heap) [KC] (cn : List Str) (k : Nat) (f : Addr) (fd : FuncData) (ps : List Str) (sp : Addr → Str → Spec) : Prop where
  len : ∀ a n ds x R, sp a n ds x R → ds.length = ps.length
  run : ∀ (A : Around) (outer : List Env) (s : Shared) (H : Hp) (args : Args) (us : List Value) (vs : List V) (p : Addr × Obj) (n : Str) (C : Addr) (ds : List D) (S : Hp) (R : Rt → Prop) (Q : VK),
    L2H.RoomH k A → L2H.PinOk outer H s p → n ∈ cn → mg n = some (.ref C) → ErrP p C → Env0 P w K mg base A outer s H → BindsTo s fd args (ps.zip us) → Vals vs us → (Same S H ∧ LamX.Tabs KC.T H) → Dats S ds vs → sp p.1 n ds (fun _ => False) R →
    (∀ r v H' S', R r → Grow H S H' S' → RtP H H' S' r v → Q v H') → codeAny (model P w) A (.call (.ref f) args) (CR (L2.CX P w) outer P w H s Q E0) s
abbrev cxE (P : Program) (w : World) (K : PySem.W.Frag) (mg : Str → Option Value) (base : Heap) (N : List Str) (qual : Str) (sc : Scope) (f : Addr) (cdv : Value) (A : Around) (outer : List Env) (s : Shared) (H : Hp) (p : Addr × Obj) : Cx :=
  L2H.cxH (L2.CX P w) P w K mg base N qual sc f cdv A outer s H E0 p
section
variable [KC] {P : Program} {w : World} {K : PySem.W.Frag} {mg : Str → Option Value} {base : Heap}
theorem fn_okE {cn : List Str} {x qual : Str} {st : Stmt} {f : Addr} {fd : FuncData} {N ps : List Str} {k : Nat} {sp : Addr → Str → Spec} (F : Fun K x qual st f fd) (S : FnScope N ps (defScope st)) (len : ∀ a n ds x R, sp a n ds x R → ds.length = ps.length)
    (hbody : ∀ (cdv : Value) (A : Around) (outer : List Env) (s : Shared) (H : Hp) (p : Addr × Obj) (n : Str), n ∈ cn → L2H.RoomH k (A.deeper (envOfC qual (defScope st) s.heap.objs.size f cdv)) → HotE (cxE P w K mg base N qual (defScope st) f cdv A outer s H p) p.1 n →
      ∃ ws, SDs (cxE P w K mg base N qual (defScope st) f cdv A outer s H p) E0 (defBody st) ws ∧ ∀ ds R, sp p.1 n ds (fun _ => False) R → ws (endsOf R fun _ => False) (startE N.length ds)) :
    FnE P w K mg base cn (k + 1) f fd ps sp := by
  obtain ⟨oc, od, kV, doc, pm, ann, cdv, ct, osl, rfl, found, code⟩ := F.ex
  refine ⟨len, fun A outer s H args us vs p n C ds S0 R Q room pin hcn gC err env0 bind rel ⟨sh, tb⟩ dat ask give => ?_⟩
  have nps : ps.length ≤ N.length := by
    have := congrArg List.length S.pre
    simp only [List.length_take] at this
    omega
  have nds := len _ _ _ _ _ ask
  have nvs : vs.length = ps.length := by rw [dat.len, nds]
  have inK : K.In s.heap := env0.mod.kin.keeps (fun b o z => (env0.bs b o z).1)
  have noLim : s.heap.NoLimit := env0.mod.nolimit.keeps (fun b o z => (env0.bs b o z).1)
  refine codeAny_call_function room.depth (inK _ _ found) rfl S.co S.gen rfl (PySem.W.codeRec_of inK code) (bind _ _ _ _ (wpAny_newFunctionEnv_cells S.kind ?_ (fun env he s1 made => ?_)))
  · rintro ⟨y, v⟩ hy
    rcases S.par y (List.of_mem_zip hy).1 with z | z
    · exact .inl z
    · exact .inr ⟨z, PySem.W.cellsFrom_some _ _ _ (.inl z)⟩
  · subst he
    refine ⟨noLim.keeps made.toInCall.keep, codeAny_func ?_⟩
    have start : Inv (cxE P w K mg base N qual (defScope st) f cdv A outer s H p) [] (L2.start N vs) H s1 := L2H.inv_startH S pin env0 nvs rel made
    obtain ⟨ws, sd, pure⟩ := hbody cdv A outer s H p n hcn (room.deeper _) ⟨p, C, List.mem_singleton.mpr rfl, rfl, gC, err⟩
    obtain ⟨t, pt, so⟩ := sd.ex
    have gr : ∀ {H' S' : Hp}, FGrow { H0 := H, S0 := S0, M := fun _ => False } H' S' → Grow H S0 H' S' := fun g => ⟨⟨fun a o z n => g.hh a o (fun y => y) z n, g.al, g.ft⟩, g.ss, g.sh, g.nw⟩
    have word := so _ _ (pure ds R ask) _ _ H S0 { nx := fun _ H' => Q .non H', rt := Q } (rep_start (N := N) sh tb dat (by omega)) ⟨fun ρ σ H' S' z r => give _ _ H' S' z (gr r.fg) (show Dat S' .non .non from .n), fun r ρ v σ H' S' z rp y => give r v H' S' z (gr rp.fg) y, fun _ _ _ _ z => z.elim, fun _ _ _ _ z => z.elim, fun _ _ _ _ z => z.elim⟩
    have close : ∀ {σ' : L2.St} {H' : Hp} {v : V} {u : Value} {s' : Shared}, Inv (cxE P w K mg base N qual (defScope st) f cdv A outer s H p) [] σ' H' s' → RelV v u → Q v H' → CE outer P w H s Q u s' := fun J rv z => ⟨_, _, J.os, J.bare, J.base, J.hok, rv, z⟩
    refine wpAny_mono (pt.run [] s1 (L2.start N vs) H _ start word) (fun fl s' out => ?_) (fun e s' out => out)
    match fl, out with
    | .ret u, ⟨v, σ', H', J, rv, z⟩ => exact close J rv z
    | .next, ⟨σ', H', J, z⟩ => exact close (v := V.non) (u := Value.none) J rfl z
    | .brk, ⟨_, _, _, z⟩ => exact z.elim
    | .cont, ⟨_, _, _, z⟩ => exact z.elim
end
section
variable [KC] {X : Cx} {E : XK} {e : Expr} {es : List Expr} {pos p q : Pos} {wa : WE} {wl : WL} {a : Addr} {n x : Str} {k : Nat} {f : Addr} {fd : FuncData} {ps : List Str} {sp : Addr → Str → Spec}
def wCallE (sp : Spec) (wl : WL) : WE := fun x ρ Q => wl x ρ fun ds => Ask sp ds (fun _ => False) (fun r => Q r.d) ⟨⟩
theorem ed_callE {cn : List Str} (hx : HotE X a n) (hcn : n ∈ cn) (G : FnE X.prog X.w X.K X.mg X.base cn k f fd ps sp) (hr : L2H.RoomH k X.A) (hg : Gl X x) (hm : X.mg x = some (.ref f)) (hk : PySem.W.keepIn X.K (.ref f) = true) (hb : Binds X.K fd ps [])
    (ha : AD X E (e :: es) wl) (hdb : (x == ("__debug__" : Str)) = false := by decide) (he : starEach (e :: es) X.env = (false, eval e X.env) :: starEach es X.env := by rfl) (hpl : (backTo pos (starEach es X.env)).any (·.1) = false := by rfl) :
    ED X E (.Call (.Name x p) (e :: es) [] pos) (wCallE (sp a n) wl) := by
  obtain ⟨t, pt, s⟩ := ha.ex
  obtain ⟨r, C, hr1, rfl, hC, err⟩ := hx
  refine ⟨fun σ H Q' => t σ H fun vs H1 => ∃ ds S R, (Same S H1 ∧ LamX.Tabs KC.T H1) ∧ Dats S ds vs ∧ sp r.1 n ds (fun _ => False) R ∧ ∀ z v H' S', R z → Grow H1 S H' S' → RtP H1 H' S' z v → Q' v H', ⟨fun pins st σ H Q I h => ?_⟩, fun x ρ Q hw F σ H S Q' rp ex k => ?_⟩
  · refine wpAny_Call_Name_kw (ld_glob I hg hm ?_ hdb)
    refine PySem.W.callWith_K (h₀ := X.base) I.ok.mod.kin hk (thn (pt.run pos pins st σ H _ I h) (fun us s1 ⟨vs, H1, I1, rel, ds, S, R, sh, dat, ask, give⟩ => ⟨I1.kIn, ?_⟩)) he hpl
    have nds := G.len _ _ _ _ _ ask
    have nus : us.length = ps.length := by rw [← rel.length, dat.len, nds]
    have bnd := hb s1 us I1.kIn (by rw [List.append_nil]; exact nus)
    rw [List.append_nil] at bnd
    obtain ⟨p1, p2, p3, p4, p5⟩ := I1.pin r (List.mem_append_left _ hr1)
    have pin : L2H.PinOk X.stack H1 s1 r := ⟨p1, p2, fun z => (List.mem_cons.mp (I1.stkSub r.1 z)).elim p3 p4, p5⟩
    refine wpAny_call (codeAny_mono (G.run X.A X.stack s1 H1 ⟨us, []⟩ us vs r n C ds S R Q hr pin hcn hC err I1.env0 bnd rel sh dat ask give) fun res s' out => ?_)
    match res, out with
    | .ok (.ret u), out => exact I1.after out
    | .error e, out =>
      obtain ⟨_, _, _, _, _, _, _, _, _, _, _, _, z⟩ := out
      exact z.elim
  · refine s x ρ _ hw F σ H S _ rp ex fun ds vs H1 S1 q1 g1 h1 => ?_
    refine ⟨ds, S1, _, ⟨g1.sh, (rp.grow g1).fg.tb⟩, h1, q1, fun z v H2 S2 q2 g2 h2 => ?_⟩
    obtain ⟨S3, g3, h3⟩ := h2.dat g2
    exact k _ _ H2 S3 q2 (g1.trans g3) h3
end
/-! ### try: f(..) / x = f(..) except C as e: suite -/
section
variable [KC] {X : Cx} {E : XK} {e : Expr} {es : List Expr} {wl : WL} {x nm cn' : Str} {k : Nat} {f : Addr} {fd : FuncData} {ps : List Str} {sp : Spec} {b0 : Stmt} {suite : List Stmt} {p np pos pos1 pos2 pos3 : Pos} {HE : Addr} {cn an : List Str} {ws : Addr → Str → WS}
def canA (mg : Str → Option Value) (w : WL) : TA := fun σ H Q' => ∃ (x : XS) (ρ : Ev) (Q : List D → Prop) (F : Fr) (S : Hp), w x ρ Q ∧ Rep F ρ σ H S ∧ ExOk mg E0 x H S ∧ ∀ ds vs H' S', Q ds → Grow H S H' S' → Dats S' ds vs → Q' vs H'
theorem AD.can (h : AD X E0 es wl) : PA X es (canA X.mg wl) := by
  obtain ⟨t, p, s⟩ := h.ex
  refine ⟨fun ps pins st σ H Q I hq => ?_⟩
  obtain ⟨x, ρ, Q2, F, S, h1, h2, h3, h4⟩ := hq
  exact p.run ps pins st σ H Q I (s x ρ Q2 h1 F σ H S Q h2 h3 h4)
def canS (mg : Str → Option Value) (cn : List Str) (ws : Addr → Str → WS) : Addr → Value → Option Addr → TS := fun a cls d D σ H => ∃ (n : Str) (C : Addr) (q : DEnds) (ρ : Ev) (F : Fr) (S : Hp), n ∈ cn ∧ mg n = some (.ref C) ∧ cls = .ref C ∧ d = none ∧ ws a n q ρ ∧ Rep F ρ σ H S ∧ EndsOk mg E0 F q D
/-- the suite's ends: the name is taken away -/
def DEnds.off (q : DEnds) (i : Nat) : DEnds := { nx := fun ρ => q.nx (ρ.set i .un), rt := q.rt, bk := fun ρ => q.bk (ρ.set i .un), ct := fun ρ => q.ct (ρ.set i .un), ex := fun _ => False }
def wTry (cn : List Str) (i : Nat) (sp : Spec) (wl : WL) (st : Rt → Ev → Ev) (ws : Addr → Str → WS) : WS := fun q ρ => wl (fun _ => False) ρ fun ds => Ask sp ds (fun n => n ∈ cn ∧ ∀ a, ws a n (q.off i) (ρ.set i (.fz (.ref a)))) (fun r => q.nx (st r ρ)) ⟨⟩
theorem EndsOk.off {mg : Str → Option Value} {F : Fr} {q : DEnds} {D : Ends} {i : Nat} (o : EndsOk mg E F q D) : EndsOk mg E0 F (q.off i) { nx := fun σ' H' => D.nx (σ'.set i none) H', rt := D.rt, bk := fun σ' H' => D.bk (σ'.set i none) H', ct := fun σ' H' => D.ct (σ'.set i none) H' } :=
  ⟨fun ρ σ H S h r => o.nx _ _ H S h r.unset, o.rt, fun ρ σ H S h r => o.bk _ _ H S h r.unset, fun ρ σ H S h r => o.ct _ _ H S h r.unset, fun _ _ _ _ z => z.elim⟩
theorem exm_of {K : PySem.W.Frag} {C D : Addr} (t : PySem.W.typeIn K (.ref D) = some (.type "type")) (d : PySem.W.hasDictIn K D = true) (b : PySem.W.subIn K (.ref D) (.type "BaseException") = some true) {v : Bool} (h : PySem.W.subIn K (.ref C) (.ref D) = some v) : PySem.W.exmOne K (.ref C) (.ref D) = some v :=
  PySem.W.exm_ref b d t h
/-- try: f(..) -/
theorem sd_tryE (i : Nat) (G : FnOk X.prog X.w X.K X.mg X.base (L2.CX X.prog X.w) k f fd ps (spOf X.mg sp)) (hr : Room k X.A) (hg : Gl X x) (hm : X.mg x = some (.ref f)) (hk : PySem.W.keepIn X.K (.ref f) = true) (hb : Binds X.K fd ps [])
    (ha : ∀ (pn : List (Addr × Obj)) (xe : Value → Shared → Prop), AD (X.tr pn xe) E0 (e :: es) wl) (er : ErrT X.K X.mg cn an) (ak : AskT X.K X.mg an) (hH : ("HangError" : Str) ∈ an)
    (hsu : ∀ (a : Addr) (n : Str) (pn : List (Addr × Obj)), n ∈ cn → HotE (X.suite a pn) a n → SDs (X.suite a pn) E0 (b0 :: suite) (ws a n))
    (hgH : Gl X "HangError") (hst : X.stack = X.env :: X.outer := by rfl) (hfr : X.env.frame = some X.env.locals := by rfl) (hN : X.N.Nodup) (hi : X.N[i]? = some nm := by rfl) (hln : X.env.kindOf nm = some .local := by rfl)
    (hdb : (x == ("__debug__" : Str)) = false := by decide) (he : starEach (e :: es) X.env = (false, eval e X.env) :: starEach es X.env := by rfl) (hpl : (backTo pos (starEach es X.env)).any (·.1) = false := by rfl) (hs : swapsWith (.Call (.Name x p) (e :: es) [] pos) none pos1.line X.env = pure false := by rfl) :
    SD X E (.Try [.Expr (.Call (.Name x p) (e :: es) [] pos) pos1] [.ExceptHandler (some (.Name "HangError" np)) (some nm) (b0 :: suite) pos2] [] [] pos3) (wTry cn i sp wl (fun _ ρ => ρ) ws) := by
  obtain ⟨HA, m1, m2, m3, m4⟩ := ak _ hH
  refine ⟨_, ps_try_as (c := .ref HA) (i := i) (ts := canS X.mg cn ws) (tb := fun W => tSeq (tDrop (tCallS (spOf X.mg sp) (L2.WE W) (canA X.mg wl))) tNext) hst hfr hN hi hln ⟨hgH, by decide, .inl m1⟩ takes0 (fun W pn xe tk _ => ?_) (fun a oe cls d pn hz hf => ⟨fun pins s σ H D I h => ?_⟩), fun q ρ hw F σ H S D rp o => ?_⟩
  · exact pss_one (ps_expr (pe_callS (X := X.tr pn xe) G hr hg hm hk hb (fun σ => passAt tk σ) (ha pn xe).can hdb he hpl) hs)
  · obtain ⟨n, C, q, ρ, F, S, hn, gC, rfl, rfl, hw, rp, o⟩ := h
    obtain ⟨t, pt, so⟩ := (hsu a n _ hn ⟨(a, oe), C, List.mem_cons_self, rfl, gC, ⟨hz, hf⟩⟩).ex
    exact pt.run pins s σ H D I (so q ρ hw F σ H S D rp o)
  · refine ⟨fun _ => False, ρ, _, F, S, hw, rp, (fun _ _ _ _ z => z.elim), fun ds vs H1 S1 ask g1 h1 => ⟨ds, S1, _, _, ⟨g1.sh, (rp.grow g1).fg.tb⟩, h1, ask, fun r v H2 S2 q2 g2 h2 => ?_, fun n C H2 S2 hx hC g2 => ?_⟩⟩
    · obtain ⟨S3, g3, h3⟩ := h2.dat g2
      exact o.nx _ _ H2 S3 q2 (rp.grow (g1.trans g3))
    · obtain ⟨hn, hx⟩ := hx
      obtain ⟨C', c1, c2, c3, c4, c5⟩ := er n hn
      obtain ⟨D', d1, d2⟩ := c5 _ hH
      rw [m1] at d1
      cases d1
      rw [hC] at c1
      cases c1
      have yes : isSubN n "HangError" = true := by simp [isSubN]
      refine ⟨true, by rw [exm_of m2 m3 m4 d2, yes], fun _ b hb => ?_, fun z => nomatch z⟩
      exact ⟨n, C, q.off i, _, F, S2, hn, hC, rfl, rfl, hx b, (rp.grow (g1.trans g2)).set (d := .ref b) (by unfold Dat; rfl), o.off⟩
/-- try: y = f(..) -/
theorem sd_tryA (i j : Nat) {y : Str} {py : Pos} (G : FnOk X.prog X.w X.K X.mg X.base (L2.CX X.prog X.w) k f fd ps (spOf X.mg sp)) (hr : Room k X.A) (hg : Gl X x) (hm : X.mg x = some (.ref f)) (hk : PySem.W.keepIn X.K (.ref f) = true) (hb : Binds X.K fd ps [])
    (ha : ∀ (pn : List (Addr × Obj)) (xe : Value → Shared → Prop), AD (X.tr pn xe) E0 (e :: es) wl) (er : ErrT X.K X.mg cn an) (ak : AskT X.K X.mg an) (hH : ("HangError" : Str) ∈ an)
    (hsu : ∀ (a : Addr) (n : Str) (pn : List (Addr × Obj)), n ∈ cn → HotE (X.suite a pn) a n → SDs (X.suite a pn) E0 (b0 :: suite) (ws a n))
    (hgH : Gl X "HangError") (hst : X.stack = X.env :: X.outer := by rfl) (hfr : X.env.frame = some X.env.locals := by rfl) (hN : X.N.Nodup) (hi : X.N[i]? = some nm := by rfl) (hln : X.env.kindOf nm = some .local := by rfl)
    (hdb : (x == ("__debug__" : Str)) = false := by decide) (he : starEach (e :: es) X.env = (false, eval e X.env) :: starEach es X.env := by rfl) (hpl : (backTo pos (starEach es X.env)).any (·.1) = false := by rfl) (hj : X.N[j]? = some y := by rfl) (hy : Loc X.env.scope y := by first | exact Or.inl rfl | exact Or.inr rfl) (hfy : X.fn y = true ∨ X.env.scope.names.lookup y = some .local := by first | exact .inl rfl | exact .inr rfl)
    (hs : swapsWith (.Call (.Name x p) (e :: es) [] pos) (some (.Name y py)) pos1.line X.env = pure false := by rfl) :
    SD X E (.Try [.Assign [.Name y py] (.Call (.Name x p) (e :: es) [] pos) pos1] [.ExceptHandler (some (.Name "HangError" np)) (some nm) (b0 :: suite) pos2] [] [] pos3) (wTry cn i sp wl (fun r ρ => ρ.set j (.fz r.d)) ws) := by
  obtain ⟨HA, m1, m2, m3, m4⟩ := ak _ hH
  refine ⟨_, ps_try_as (c := .ref HA) (i := i) (ts := canS X.mg cn ws) (tb := fun W => tSeq (tAsg (tCallS (spOf X.mg sp) (L2.WE W) (canA X.mg wl)) (gName j)) tNext) hst hfr hN hi hln ⟨hgH, by decide, .inl m1⟩ takes0 (fun W pn xe tk _ => ?_) (fun a oe cls d pn hz hf => ⟨fun pins s σ H D I h => ?_⟩), fun q ρ hw F σ H S D rp o => ?_⟩
  · exact pss_one (ps_set (X := X.tr pn xe) hN hj hy (pe_callS (X := X.tr pn xe) G hr hg hm hk hb (fun σ => passAt tk σ) (ha pn xe).can hdb he hpl) hs hfy)
  · obtain ⟨n, C, q, ρ, F, S, hn, gC, rfl, rfl, hw, rp, o⟩ := h
    obtain ⟨t, pt, so⟩ := (hsu a n _ hn ⟨(a, oe), C, List.mem_cons_self, rfl, gC, ⟨hz, hf⟩⟩).ex
    exact pt.run pins s σ H D I (so q ρ hw F σ H S D rp o)
  · refine ⟨fun _ => False, ρ, _, F, S, hw, rp, (fun _ _ _ _ z => z.elim), fun ds vs H1 S1 ask g1 h1 => ⟨ds, S1, _, _, ⟨g1.sh, (rp.grow g1).fg.tb⟩, h1, ask, fun r v H2 S2 q2 g2 h2 => ?_, fun n C H2 S2 hx hC g2 => ?_⟩⟩
    · obtain ⟨S3, g3, h3⟩ := h2.dat g2
      exact o.nx _ _ H2 S3 q2 ((rp.grow (g1.trans g3)).set h3)
    · obtain ⟨hn, hx⟩ := hx
      obtain ⟨C', c1, c2, c3, c4, c5⟩ := er n hn
      obtain ⟨D', d1, d2⟩ := c5 _ hH
      rw [m1] at d1
      cases d1
      rw [hC] at c1
      cases c1
      have yes : isSubN n "HangError" = true := by simp [isSubN]
      refine ⟨true, by rw [exm_of m2 m3 m4 d2, yes], fun _ b hb => ?_, fun z => nomatch z⟩
      exact ⟨n, C, q.off i, _, F, S2, hn, hC, rfl, rfl, hx b, (rp.grow (g1.trans g2)).set (d := .ref b) (by unfold Dat; rfl), o.off⟩
end
theorem roomH_mark {k : Nat} {A : Around} {v : Option Value} (r : Room k A) : L2H.RoomH k (A.mark v) := ⟨r.dp, r.un⟩
/-! a truth in a list of truths -/
section
variable [KC] {X : Cx}
omit [KC] in
theorem inV_bl (b : Bool) : ∀ bs : List Bool, (bs.map V.bl).all flatV = true ∧ inV (.bl b) (bs.map V.bl) = decide (b ∈ bs)
  | [] => ⟨rfl, by simp [inV]⟩
  | m :: bs => by
    obtain ⟨h1, h2⟩ := inV_bl b bs
    refine ⟨by rw [List.map_cons, List.all_cons, h1]; rfl, ?_⟩
    unfold inV at h2 ⊢
    rw [List.map_cons, List.any_cons, h2]
    have : eqV (.bl m) (.bl b) = decide (b = m) := by
      show (m == b) = _
      cases m <;> cases b <;> rfl
    rw [this]
    by_cases e : b = m <;> simp [e]
def gInB (neg : Bool) : D → D → (D → Prop) → Prop
  | .bl n, .lst xs, Q => ∃ bs : List Bool, xs = bs.map D.bl ∧ Q (.bl (neg ^^ decide (n ∈ bs)))
  | _, _, _ => False
theorem dNotInB (hK : X.K = KC.K := by rfl) : OpD X (compareOp .NotIn) (gInB true) := by
  refine ⟨_, op_notIn_seq, fun d e Q h H S u v Q' sh hd he k => ?_⟩
  unfold gInB at h
  split at h
  · obtain ⟨bs, rfl, q⟩ := h
    cases hd.b
    obtain ⟨a, ws, rfl, r, z⟩ := he
    have := z.ofBls
    subst this
    obtain ⟨i1, i2⟩ := inV_bl _ bs
    exact ⟨a, _, rfl, .inl (.of r), rfl, i1, by rw [i2]; simpa using k _ _ H S q (.refl sh) .b⟩
  · exact h.elim
end

/-! ### `{}`; l.count(b), l.index(b) of truths; try: y = f(..), the new list owned -/
section
variable [KC] {X : Cx} {E : XK} {e : Expr} {es : List Expr} {wa wb : WE} {wl : WL} {x nm cn' : Str} {k : Nat} {f : Addr} {fd : FuncData} {ps : List Str} {sp : Spec} {b0 : Stmt} {suite : List Stmt} {p np pos pos1 pos2 pos3 apos : Pos} {HE : Addr} {cn an : List Str} {ws : Addr → Str → WS}
def wDct0 : WE := fun _ _ Q => Q (.dct [] [])
theorem ed_dct0 : ED X E (.Dict [] [] pos) wDct0 := by
  refine ⟨_, pe_dnewK, fun x ρ Q hw F σ H S Q' rp ex k => fun a h0 => ?_⟩
  have g : Grow H S H S := .refl rp.fg.sh
  refine k _ _ _ (upd S a (.dK [])) hw ((g.lay h0).share (o := .dK []) h0 (g.freeS h0) upd_same) ?_
  unfold Dat
  refine ⟨a, [], rfl, upd_same, rfl, ?_⟩
  unfold Dats
  rfl
theorem cnt_eqU {y : V} : ∀ {xs : List V} {us : List Value}, Vals xs us → xs.all flatV = true → us.countP (eqU y) = xs.countP fun z => eqV z y
  | _, _, .nil, _ => rfl
  | z :: xs, u :: us, .cons r t, f => by
    rw [List.all_cons, Bool.and_eq_true] at f
    rw [List.countP_cons, List.countP_cons, eqU_of r f.1, cnt_eqU t f.2]
def rCntF (K : PySem.W.Frag) : V → List V → Hp → VK → Prop := fun x xs H Q => ∃ (a : Addr) (ys : List V) (y : V), x = V.ref a ∧ xs = [y] ∧ SqL K H a ys ∧ flatV y = true ∧ ys.all flatV = true ∧ Q (.int (ys.countP (fun z => eqV z y) : Nat)) H
theorem mt_countF : MtR X "list.count" (rCntF X.K) := by
  intro pins s σ H x xs v us Q I rx rxs h
  obtain ⟨a, ys, y, rfl, rfl, hs, fy, fys, q⟩ := h
  cases rx
  cases rxs with
  | cons ry rt =>
    rename_i uy ut
    cases rt
    obtain ⟨its, rv, ⟨⟨cls, dd, data, sl⟩, n, ho, hc, hdn, hd⟩, hlen⟩ := I.list hs
    simp only at hc hd
    subst hc hd
    refine call_meets PySem.F.slot_list_count ⟨_, ho, rfl⟩ PySem.F.entry_list_count (PySem.F.args_list_count_2 _ _)
      (SeqAt.list_countAt a its.toArray n dd sl uy (eqU y)) ⟨ho, fun u' hu' => mem_eqAt ry fy rv fys u' (by simpa using hu'), ?_⟩
    refine ⟨.int (ys.countP (fun z => eqV z y) : Nat), H, I.tok _, ⟨s.toks, ?_⟩, q⟩
    show Value.int ((its.toArray.toList.countP (eqU y) : Nat) : Int) s.toks = _
    rw [show its.toArray.toList = its from rfl, cnt_eqU rv fys]
def wCntB (wa : WE) (wl : WL) : WE := fun x ρ Q => wa x ρ fun d => match d with
  | .lst xs => wl x ρ fun es => match es with
    | [.bl b] => ∃ bs : List Bool, xs = bs.map D.bl ∧ Q (.int (bs.count b : Nat))
    | _ => False
  | _ => False
def wIdxB (wa : WE) (wl : WL) : WE := fun x ρ Q => wa x ρ fun d => match d with
  | .lst xs => wl x ρ fun es => match es with
    | [.bl b] => ∃ (bs : List Bool) (j : Nat), xs = bs.map D.bl ∧ bs[j]? = some b ∧ (∀ m, m < j → bs[m]? ≠ some b) ∧ Q (.int (j : Nat))
    | _ => False
  | _ => False
theorem flat_bl (b : Bool) : flatV (.bl b) = true := rfl
theorem flat_bls (bs : List Bool) : (bs.map V.bl).all flatV = true := by simp [flatV]
theorem dats_bl1 {S : Hp} {b : Bool} {vs : List V} (h : Dats S [.bl b] vs) : vs = [.bl b] := Dats.ofBls (ns := [b]) h
theorem ed_cntB {o : Expr} (ho : ED X E o wa) (ha : AD X E (e :: es) wl)
    (hbase : attributeBase o "count" X.env (eval o X.env) = eval o X.env := by rfl)
    (hfew : ((backTo pos (starEach (e :: es) X.env)).all (fun x => !x.1) && (backToKw pos (keywordEach [] X.env)).all (fun x => x.1.isSome)
      && decide ((e :: es).length + ([] : List Keyword).length + (if ([] : List Keyword).isEmpty then 0 else 1) < 30)) = true := by rfl)
    (hline : (apos.endLine == pos.line) = true := by rfl) (hst : starEach (e :: es) X.env = (false, eval e X.env) :: starEach es X.env := by rfl) (hplain : (backTo pos (starEach es X.env)).any (·.1) = false := by rfl) :
    ED X E (.Call (.Attribute o "count" apos) (e :: es) [] pos) (wCntB wa wl) := by
  obtain ⟨t1, p1, s1⟩ := ho.ex
  obtain ⟨t2, p2, s2⟩ := ha.ex
  refine ⟨_, pe_bm PySem.F.plainAttrs_list PySem.F.slot_list_count PySem.F.type_list_count mt_countF p1 p2 hbase hfew hline hst hplain, fun x ρ Q hw F σ H S Q' rp ex k => ?_⟩
  refine s1 x ρ _ hw F σ H S _ rp ex fun d u H1 S1 q1 g1 h1 => ?_
  cases d with
  | lst xs =>
    obtain ⟨a, vs, rfl, r, z⟩ := h1
    refine ⟨.inl ⟨rfl, _, .of (g1.sh _ _ r)⟩, ?_⟩
    refine s2 x ρ _ q1 F σ H1 S1 _ (rp.grow g1) (ex.grow g1) fun es us H2 S2 q2 g2 h2 => ?_
    match es, q2, h2 with
    | [.bl b], q2, h2 =>
      obtain rfl := dats_bl1 h2
      obtain ⟨bs, rfl, q⟩ := q2
      obtain rfl := z.ofBls
      refine ⟨a, _, _, rfl, rfl, .of (g2.hh.lst (g1.sh _ _ r)), flat_bl b, flat_bls bs, ?_⟩
      have : (bs.map V.bl).countP (fun z => eqV z (.bl b)) = bs.count b := by
        rw [List.countP_map, List.count]
        rfl
      rw [this]
      exact k _ _ H2 S2 q (g1.trans g2) .i
  | _ => exact q1.elim
theorem ed_idxB {o : Expr} (ho : ED X E o wa) (ha : AD X E (e :: es) wl)
    (hbase : attributeBase o "index" X.env (eval o X.env) = eval o X.env := by rfl)
    (hfew : ((backTo pos (starEach (e :: es) X.env)).all (fun x => !x.1) && (backToKw pos (keywordEach [] X.env)).all (fun x => x.1.isSome)
      && decide ((e :: es).length + ([] : List Keyword).length + (if ([] : List Keyword).isEmpty then 0 else 1) < 30)) = true := by rfl)
    (hline : (apos.endLine == pos.line) = true := by rfl) (hst : starEach (e :: es) X.env = (false, eval e X.env) :: starEach es X.env := by rfl) (hplain : (backTo pos (starEach es X.env)).any (·.1) = false := by rfl) :
    ED X E (.Call (.Attribute o "index" apos) (e :: es) [] pos) (wIdxB wa wl) := by
  obtain ⟨t1, p1, s1⟩ := ho.ex
  obtain ⟨t2, p2, s2⟩ := ha.ex
  refine ⟨_, pe_bm PySem.F.plainAttrs_list PySem.F.slot_list_index PySem.F.type_list_index mt_index p1 p2 hbase hfew hline hst hplain, fun x ρ Q hw F σ H S Q' rp ex k => ?_⟩
  refine s1 x ρ _ hw F σ H S _ rp ex fun d u H1 S1 q1 g1 h1 => ?_
  cases d with
  | lst xs =>
    obtain ⟨a, vs, rfl, r, z⟩ := h1
    refine ⟨.inl ⟨rfl, _, .of (g1.sh _ _ r)⟩, ?_⟩
    refine s2 x ρ _ q1 F σ H1 S1 _ (rp.grow g1) (ex.grow g1) fun es us H2 S2 q2 g2 h2 => ?_
    match es, q2, h2 with
    | [.bl b], q2, h2 =>
      obtain rfl := dats_bl1 h2
      obtain ⟨bs, j, rfl, hj, hno, q⟩ := q2
      obtain rfl := z.ofBls
      refine ⟨a, _, _, j, .bl b, rfl, rfl, .of (g2.hh.lst (g1.sh _ _ r)), flat_bl b, flat_bls bs, by rw [List.getElem?_map, hj]; rfl, by show (b == b) = true; simp, fun m z' hm hz => ?_, k _ _ H2 S2 q (g1.trans g2) .i⟩
      rw [List.getElem?_map] at hz
      cases hb : bs[m]? with
      | none => rw [hb] at hz; cases hz
      | some b' =>
        rw [hb] at hz
        cases hz
        show (b' == b) = false
        refine beq_eq_false_iff_ne.mpr fun e => hno m hm (by rw [hb, e])
  | _ => exact q1.elim
/-- try: y = f(..), what comes is new and owned -/
def wTryF (cn : List Str) (i j : Nat) (sp : Spec) (wl : WL) (ws : Addr → Str → WS) : WS := fun q ρ => wl (fun _ => False) ρ fun ds => Ask sp ds (fun n => n ∈ cn ∧ ∀ a, ws a n (q.off i) (ρ.set i (.fz (.ref a)))) (onNew fun xs => q.nx (ρ.set j (.own false (.lst xs)))) ⟨⟩
theorem sd_tryF (i j : Nat) {y : Str} {py : Pos} (G : FnOk X.prog X.w X.K X.mg X.base (L2.CX X.prog X.w) k f fd ps (spOf X.mg sp)) (hr : Room k X.A) (hg : Gl X x) (hm : X.mg x = some (.ref f)) (hk : PySem.W.keepIn X.K (.ref f) = true) (hb : Binds X.K fd ps [])
    (ha : ∀ (pn : List (Addr × Obj)) (xe : Value → Shared → Prop), AD (X.tr pn xe) E0 (e :: es) wl) (er : ErrT X.K X.mg cn an) (ak : AskT X.K X.mg an) (hH : ("HangError" : Str) ∈ an)
    (hsu : ∀ (a : Addr) (n : Str) (pn : List (Addr × Obj)), n ∈ cn → HotE (X.suite a pn) a n → SDs (X.suite a pn) E0 (b0 :: suite) (ws a n))
    (hgH : Gl X "HangError") (hst : X.stack = X.env :: X.outer := by rfl) (hfr : X.env.frame = some X.env.locals := by rfl) (hN : X.N.Nodup) (hi : X.N[i]? = some nm := by rfl) (hln : X.env.kindOf nm = some .local := by rfl)
    (hdb : (x == ("__debug__" : Str)) = false := by decide) (he : starEach (e :: es) X.env = (false, eval e X.env) :: starEach es X.env := by rfl) (hpl : (backTo pos (starEach es X.env)).any (·.1) = false := by rfl) (hj : X.N[j]? = some y := by rfl) (hy : Loc X.env.scope y := by first | exact Or.inl rfl | exact Or.inr rfl) (hfy : X.fn y = true ∨ X.env.scope.names.lookup y = some .local := by first | exact .inl rfl | exact .inr rfl)
    (hs : swapsWith (.Call (.Name x p) (e :: es) [] pos) (some (.Name y py)) pos1.line X.env = pure false := by rfl) :
    SD X E (.Try [.Assign [.Name y py] (.Call (.Name x p) (e :: es) [] pos) pos1] [.ExceptHandler (some (.Name "HangError" np)) (some nm) (b0 :: suite) pos2] [] [] pos3) (wTryF cn i j sp wl ws) := by
  obtain ⟨HA, m1, m2, m3, m4⟩ := ak _ hH
  refine ⟨_, ps_try_as (c := .ref HA) (i := i) (ts := canS X.mg cn ws) (tb := fun W => tSeq (tAsg (tCallS (spOf X.mg sp) (L2.WE W) (canA X.mg wl)) (gName j)) tNext) hst hfr hN hi hln ⟨hgH, by decide, .inl m1⟩ takes0 (fun W pn xe tk _ => ?_) (fun a oe cls d pn hz hf => ⟨fun pins s σ H D I h => ?_⟩), fun q ρ hw F σ H S D rp o => ?_⟩
  · exact pss_one (ps_set (X := X.tr pn xe) hN hj hy (pe_callS (X := X.tr pn xe) G hr hg hm hk hb (fun σ => passAt tk σ) (ha pn xe).can hdb he hpl) hs hfy)
  · obtain ⟨n, C, q, ρ, F, S, hn, gC, rfl, rfl, hw, rp, o⟩ := h
    obtain ⟨t, pt, so⟩ := (hsu a n _ hn ⟨(a, oe), C, List.mem_cons_self, rfl, gC, ⟨hz, hf⟩⟩).ex
    exact pt.run pins s σ H D I (so q ρ hw F σ H S D rp o)
  · refine ⟨fun _ => False, ρ, _, F, S, hw, rp, (fun _ _ _ _ z => z.elim), fun ds vs H1 S1 ask g1 h1 => ⟨ds, S1, _, _, ⟨g1.sh, (rp.grow g1).fg.tb⟩, h1, ask, fun r v H2 S2 q2 g2 h2 => ?_, fun n C H2 S2 hx hC g2 => ?_⟩⟩
    · cases r with
      | val d => exact q2.elim
      | newT d => exact q2.elim
      | new c =>
        cases c with
        | dct _ _ => exact q2.elim
        | obj _ _ _ => exact q2.elim
        | lst xs =>
          obtain ⟨p, o', rfl, z0, z1, z2, us, rfl, z3⟩ := h2
          have g := g1.trans g2
          exact o.nx _ _ H2 S2 q2 ((rp.grow g).setOwn z1 z2 ⟨us, rfl, z3⟩ (fg_free rp.fg (g1.freeH z0)) (own_ne rp (g1.freeH z0)))
    · obtain ⟨hn, hx⟩ := hx
      obtain ⟨C', c1, c2, c3, c4, c5⟩ := er n hn
      obtain ⟨D', d1, d2⟩ := c5 _ hH
      rw [m1] at d1
      cases d1
      rw [hC] at c1
      cases c1
      have yes : isSubN n "HangError" = true := by simp [isSubN]
      refine ⟨true, by rw [exm_of m2 m3 m4 d2, yes], fun _ b hb => ?_, fun z => nomatch z⟩
      exact ⟨n, C, q.off i, _, F, S2, hn, hC, rfl, rfl, hx b, (rp.grow (g1.trans g2)).set (d := .ref b) (by unfold Dat; rfl), o.off⟩
end
section
variable [KC] {X : Cx}
theorem dEqH {k : Nat} (hr : L2H.RoomH k X.A) : OpD X (compareOp .Eq) (gEq false) := by
  refine ⟨_, op_eq.or (op_eqD (show X.A.units + 64 < cLine by have := hr.un; omega)), fun d e Q h H S u v Q' sh hd he k => ?_⟩
  unfold gEq at h
  split at h
  · cases hd.b
    cases he.b
    exact .inl ⟨rfl, by rw [dec_bl']; simpa using k _ _ H S h (.refl sh) .b⟩
  · cases hd.i
    cases he.i
    exact .inl ⟨rfl, by simpa using k _ _ H S h (.refl sh) .b⟩
  · cases hd.s
    cases he.s
    exact .inl ⟨rfl, by simpa using k _ _ H S h (.refl sh) .b⟩
  · obtain ⟨⟨n1, n2⟩, h⟩ := h
    refine .inr ⟨_, _, nb_dp 20 _ u n1 (hd.full sh), nb_dp 20 _ v n2 (he.full sh), nb_shaped n1, nb_shaped n2, ?_⟩
    rw [eqv_deq n1 n2]
    simpa using k _ _ H S h (.refl sh) .b
theorem dNeH {k : Nat} (hr : L2H.RoomH k X.A) : OpD X (compareOp .NotEq) (gEq true) := by
  refine ⟨_, op_ne.or (op_neD (show X.A.units + 64 < cLine by have := hr.un; omega)), fun d e Q h H S u v Q' sh hd he k => ?_⟩
  unfold gEq at h
  split at h
  · cases hd.b
    cases he.b
    exact .inl ⟨rfl, by rw [dec_bl']; simpa using k _ _ H S h (.refl sh) .b⟩
  · cases hd.i
    cases he.i
    exact .inl ⟨rfl, by simpa using k _ _ H S h (.refl sh) .b⟩
  · cases hd.s
    cases he.s
    exact .inl ⟨rfl, by simpa using k _ _ H S h (.refl sh) .b⟩
  · obtain ⟨⟨n1, n2⟩, h⟩ := h
    refine .inr ⟨_, _, nb_dp 20 _ u n1 (hd.full sh), nb_dp 20 _ v n2 (he.full sh), nb_shaped n1, nb_shaped n2, ?_⟩
    rw [eqv_deq n1 n2]
    simpa using k _ _ H S h (.refl sh) .b
end
end NL

/-! text.index(letter). -/
namespace NL
open PySem PySem.Spec L2
open PyProof.Rows hiding St
section
variable [KC] {X : Cx} {E : XK} {a b : Expr} {wa wb : WE} {pos apos : Pos}
def wIdxS (wa wb : WE) : WE := fun x ρ Q => wa x ρ fun d => match d with
  | .str s => wb x ρ fun e => match e with
    | .str z => ∃ i rest, Builtin.Str.occurrences s z 0 s.length 1 = i :: rest ∧ Q (.int (i : Nat))
    | _ => False
  | _ => False
theorem ed_idxS (ha : ED X E a wa) (hb : ED X E b wb) (hs : starEach [b] X.env = [(false, eval b X.env)] := by rfl) (hbase : attributeBase a "index" X.env (eval a X.env) = eval a X.env := by rfl) (hline : (apos.endLine == pos.line) = true := by rfl) :
    ED X E (.Call (.Attribute a "index" apos) [b] [] pos) (wIdxS wa wb) := by
  obtain ⟨t1, p1, s1⟩ := ha.ex
  obtain ⟨t2, p2, s2⟩ := hb.ex
  refine ⟨_, pe_m1 PySem.F.slot_str_index PySem.F.type_str_index mt_sindex p1 p2 hs hbase hline, fun x ρ Q hw F σ H S Q' rp ex k => ?_⟩
  refine s1 x ρ _ hw F σ H S _ rp ex fun d u H1 S1 q1 g1 h1 => ?_
  cases d with
  | str s =>
    obtain rfl : u = .str s := by unfold Dat at h1; exact h1
    refine ⟨⟨s, rfl⟩, s2 x ρ _ q1 F σ H1 S1 _ (rp.grow g1) (ex.grow g1) fun e v H2 S2 q2 g2 h2 => ?_⟩
    cases e with
    | str z =>
      obtain rfl : v = .str z := by unfold Dat at h2; exact h2
      obtain ⟨i, rest, ho, q⟩ := q2
      exact ⟨s, z, i, rest, rfl, rfl, ho, k _ _ H2 S2 q (g1.trans g2) .i⟩
    | _ => exact q2.elim
  | _ => exact q1.elim
end
/-- one sign in a text, or a text in a list of texts -/
def gInX (neg : Bool) : D → D → (D → Prop) → Prop := fun d e Q => match e with
  | .str _ => gInS neg d e Q
  | _ => gInT neg d e Q
theorem inX {X : Cx} [KC] {f : Value → Value → Sem Value} {neg : Bool} (h1 : OpD X f (gInS neg)) (h2 : OpD X f (gInT neg)) : OpD X f (gInX neg) := by
  obtain ⟨r1, o1, s1⟩ := h1.ex
  obtain ⟨r2, o2, s2⟩ := h2.ex
  refine ⟨_, o1.or o2, fun d e Q h H S u v Q' sh hd he k => ?_⟩
  unfold gInX at h
  split at h
  · exact .inl (s1 _ _ Q h H S u v Q' sh hd he k)
  · exact .inr (s2 _ _ Q h H S u v Q' sh hd he k)
theorem dInX {X : Cx} [KC] (hK : X.K = KC.K := by rfl) : OpD X (compareOp .In) (gInX false) := inX dInS (dInT hK)
/-- where a letter stands in the alphabet -/
theorem abc_idx {c : Nat} (h1 : 97 ≤ c) (h2 : c ≤ 122) : Builtin.Str.occurrences (Str.ofString "abcdefghijklmnopqrstuvwxyz") (tx [c]) 0 (Str.ofString "abcdefghijklmnopqrstuvwxyz").length 1 = [c - 97] := by
  have key : ∀ i : Fin 26, Builtin.Str.occurrences (Str.ofString "abcdefghijklmnopqrstuvwxyz") (tx [97 + i.1]) 0 (Str.ofString "abcdefghijklmnopqrstuvwxyz").length 1 = [i.1] := by decide +kernel
  have := key ⟨c - 97, by omega⟩
  simp only at this
  rw [show 97 + (c - 97) = c by omega] at this
  exact this
end NL

/-! l.insert(i, x); tuple(l); {k: v}; == of a thing with its like, truths in it. -/
namespace NL
open PySem PySem.Spec L2
open PyProof.Rows hiding St
section
variable [KC] {X : Cx}
def gIns : List D → List D → (List D → Prop) → Prop
  | xs, [.int i, d], Q => xs.length < sizeLine ∧ 0 ≤ i ∧ i < 2 ^ 63 ∧ Q (xs.take i.toNat ++ [d] ++ xs.drop i.toNat)
  | _, _, _ => False
theorem mIns : MutD X "list.insert" gIns := by
  refine ⟨_, mt_insert, fun xs ds Q h H S l us vs Q' sh hl hu hd k => ?_⟩
  unfold gIns at h
  split at h
  · unfold Dats Dats Dats at hd
    obtain ⟨u, _, rfl, hu1, v, _, rfl, hv, rfl⟩ := hd
    unfold Dat at hu1
    subst hu1
    obtain ⟨h1, h2, h3, q⟩ := h
    exact ⟨l, us, _, v, rfl, rfl, hl, by rw [hu.len]; exact h1, h2, h3, k _ _ _ q (((hu.take _).app (.one hv)).app (hu.drop _))⟩
  · exact h.elim
def gTup : List D → (D → Prop) → Prop
  | [.lst xs], Q => Q (.tup xs)
  | _, _ => False
theorem cTup : CalD X (.type "tuple") gTup := by
  refine ⟨_, call_tuple_of, fun ds Q h H S vs Q' sh hd k => ?_⟩
  unfold gTup at h
  split at h
  · obtain ⟨v, rfl, hz⟩ := hd.one
    obtain ⟨a, ws, rfl, r, z⟩ := hz
    refine ⟨a, ws, rfl, .inl ⟨.of r, fun l hl => ?_⟩⟩
    obtain ⟨g, y⟩ := lay_tup sh hl z
    exact k _ _ _ _ h g y
  · exact h.elim
/-- data with truths in it, at most so deep -/
def nbr : Nat → D → Bool
  | 0, _ => false
  | _ + 1, .non => true
  | _ + 1, .bl _ => true
  | _ + 1, .int _ => true
  | _ + 1, .str s => PyData.strOk s
  | n + 1, .lst xs => xs.all (nbr n)
  | n + 1, .tup xs => xs.all (nbr n)
  | _ + 1, _ => false
def toPyr : Nat → D → PyData
  | 0, _ => .none
  | _ + 1, .non => .none
  | _ + 1, .bl b => .bool b
  | _ + 1, .int i => .int i
  | _ + 1, .str s => .str s
  | n + 1, .lst xs => .list (xs.map (toPyr n))
  | n + 1, .tup xs => .tuple (xs.map (toPyr n))
  | _ + 1, _ => .none
theorem nbr_dp {H : Hp} {K : PySem.W.Frag} : ∀ (n : Nat) (d : D) (v : V), nbr n d = true → Dat H d v → Dp K H v (toPyr n d)
  | 0, _, _, h, _ => by simp [nbr] at h
  | n + 1, .non, v, _, q => by unfold Dat at q; subst q; exact .non
  | n + 1, .int i, v, _, q => by unfold Dat at q; subst q; exact .int i
  | n + 1, .str i, v, _, q => by unfold Dat at q; subst q; exact .str i
  | n + 1, .bl b, v, _, q => by unfold Dat at q; subst q; exact .bl b
  | n + 1, .dct _ _, v, h, _ => by simp [nbr] at h
  | n + 1, .dkz _ _, v, h, _ => by simp [nbr] at h
  | n + 1, .obj _ _ _, v, h, _ => by simp [nbr] at h
  | n + 1, .ref _, v, h, _ => by simp [nbr] at h
  | n + 1, .scr _, v, h, _ => by simp [nbr] at h
  | n + 1, .lst xs, v, h, q => by
    unfold Dat at q
    obtain ⟨a, vs, rfl, r, q⟩ := q
    have h' : ∀ x ∈ xs, nbr n x = true := by simpa [nbr] using h
    refine .lst (.of r) ?_
    clear r h
    induction xs generalizing vs with
    | nil => unfold Dats at q; subst q; exact .nil
    | cons x xs ih =>
      unfold Dats at q
      obtain ⟨v, r, rfl, q1, q2⟩ := q
      exact .cons (nbr_dp n x v (h' x (by simp)) q1) (ih r q2 fun y hy => h' y (by simp [hy]))
  | n + 1, .tup xs, v, h, q => by
    unfold Dat at q
    obtain ⟨a, vs, rfl, r, q⟩ := q
    have h' : ∀ x ∈ xs, nbr n x = true := by simpa [nbr] using h
    refine .tup (.of r) ?_
    clear r h
    induction xs generalizing vs with
    | nil => unfold Dats at q; subst q; exact .nil
    | cons x xs ih =>
      unfold Dats at q
      obtain ⟨v, r, rfl, q1, q2⟩ := q
      exact .cons (nbr_dp n x v (h' x (by simp)) q1) (ih r q2 fun y hy => h' y (by simp [hy]))
omit [KC] in
theorem nbr_shape : ∀ (n : Nat) (d : D), nbr n d = true → (toPyr n d).canLay0 = true ∧ (toPyr n d).depth ≤ n
  | 0, _, h => by simp [nbr] at h
  | n + 1, .non, _ => by simp [toPyr, PyData.canLay0, PyData.depth]
  | n + 1, .int i, _ => by simp [toPyr, PyData.canLay0, PyData.depth]
  | n + 1, .bl i, _ => by simp [toPyr, PyData.canLay0, PyData.depth]
  | n + 1, .str i, h => by simpa [toPyr, PyData.canLay0, PyData.depth, nbr] using h
  | n + 1, .dct _ _, h => by simp [nbr] at h
  | n + 1, .dkz _ _, h => by simp [nbr] at h
  | n + 1, .obj _ _ _, h => by simp [nbr] at h
  | n + 1, .ref _, h => by simp [nbr] at h
  | n + 1, .scr _, h => by simp [nbr] at h
  | n + 1, .lst xs, h => by
    have h' : ∀ x ∈ xs, nbr n x = true := by simpa [nbr] using h
    have key : PyData.canLayAll0 (xs.map (toPyr n)) = true ∧ PyData.depthAll (xs.map (toPyr n)) ≤ n := by
      clear h
      induction xs with
      | nil => simp [PyData.canLayAll0, PyData.depthAll]
      | cons x xs ih =>
        obtain ⟨i1, i2⟩ := ih fun y hy => h' y (by simp [hy])
        obtain ⟨j1, j2⟩ := nbr_shape n x (h' x (by simp))
        simp only [List.map_cons, PyData.canLayAll0, PyData.depthAll, i1, j1, Bool.and_self, true_and]
        omega
    simp only [toPyr, PyData.canLay0, PyData.depth, key.1, true_and]
    omega
  | n + 1, .tup xs, h => by
    have h' : ∀ x ∈ xs, nbr n x = true := by simpa [nbr] using h
    have key : PyData.canLayAll0 (xs.map (toPyr n)) = true ∧ PyData.depthAll (xs.map (toPyr n)) ≤ n := by
      clear h
      induction xs with
      | nil => simp [PyData.canLayAll0, PyData.depthAll]
      | cons x xs ih =>
        obtain ⟨i1, i2⟩ := ih fun y hy => h' y (by simp [hy])
        obtain ⟨j1, j2⟩ := nbr_shape n x (h' x (by simp))
        simp only [List.map_cons, PyData.canLayAll0, PyData.depthAll, i1, j1, Bool.and_self, true_and]
        omega
    simp only [toPyr, PyData.canLay0, PyData.depth, key.1, true_and]
    omega
omit [KC] in
theorem nbr_shaped {d : D} (h : nbr 20 d = true) : SeqAt.shaped (toPyr 20 d) = true := by
  obtain ⟨h1, h2⟩ := nbr_shape 20 d h
  unfold SeqAt.shaped
  rw [h1, decide_eq_true (by omega)]
  rfl
/-- a thing and its like -/
def gEqR : D → D → (D → Prop) → Prop := fun d e Q => d = e ∧ nbr 20 d = true ∧ Q (.bl true)
theorem dEqR {k : Nat} (hr : Room k X.A) : OpD X (compareOp .Eq) gEqR := by
  refine ⟨_, op_eqD hr.units, fun d e Q h H S u v Q' sh hd he k => ?_⟩
  obtain ⟨rfl, n1, h⟩ := h
  refine ⟨_, _, nbr_dp 20 _ u n1 (hd.full sh), nbr_dp 20 _ v n1 (he.full sh), nbr_shaped n1, nbr_shaped n1, ?_⟩
  rw [SeqAt.eqv_refl _ (nbr_shape 20 d n1).1]
  simpa using k _ _ H S h (.refl sh) .b
end
section
variable [KC] {X : Cx} {E : XK} {ek ev : Expr} {wk wv : WE} {pos : Pos}
/-- {k: v}, k a text -/
def wDct1 (wk wv : WE) : WE := fun x ρ Q => wk x ρ fun d => wv x ρ fun e => match d with
  | .str s => Q (.dct [.inr s] [e])
  | _ => False
theorem ed_dct1 (hk : ED X E ek wk) (hv : ED X E ev wv) : ED X E (.Dict [some ek] [ev] pos) (wDct1 wk wv) := by
  obtain ⟨tk, pk, sk⟩ := hk.ex
  obtain ⟨tv, pv, sv⟩ := hv.ex
  refine ⟨_, pe_disp (pps_cons pk pv pps_nil) rfl rfl (by simp) (by simp), fun x ρ Q hw F σ H S Q' rp ex k => fun a h0 => ?_⟩
  have g0 : Grow H S H S := .refl rp.fg.sh
  have ga : Grow H S (upd H a (.dK [])) S := g0.lay h0
  refine sk x ρ _ hw F σ _ S _ (rp.grow ga) (ex.grow ga) fun d u H1 S1 q1 g1 h1 => ?_
  refine sv x ρ _ q1 F σ H1 S1 _ (rp.grow (ga.trans g1)) (ex.grow (ga.trans g1)) fun e v H2 S2 q2 g2 h2 => ?_
  have gg := ga.trans (g1.trans g2)
  have hH : H2 a = some (.dK []) := (g1.trans g2).hh.dK upd_same
  cases d with
  | str s =>
    unfold Dat at h1
    subst h1
    refine ⟨hH, [(.inr s, v)], rfl, by simp, ?_⟩
    have hS : S2 a = none := by
      rw [(g1.trans g2).nw a (by rw [upd_same]; intro z; cases z)]
      exact g0.freeS h0
    have hm : mergeK [] [((.inr s : Key), v)] = [(.inr s, v)] := rfl
    rw [hm]
    refine k (.dct [.inr s] [e]) _ _ (upd S2 a (.dK [(.inr s, v)])) q2 ⟨gg.hh.over h0 hH (fun _ z => by cases z) (fun _ z => by cases z), gg.ss.trans (same_upd hS), fun b o e => ?_, fun b hb => ?_⟩ ?_
    · by_cases z : b = a
      · subst z
        rw [upd_same] at e ⊢
        exact e
      · rw [upd_ne z] at e ⊢
        exact gg.sh b o e
    · have ne : b ≠ a := fun z => by subst z; exact hb h0
      rw [upd_ne ne]
      exact gg.nw b hb
    · unfold Dat
      exact ⟨a, [(.inr s, v)], rfl, upd_same, rfl, Dats.one (Dat.mono (same_upd hS) _ _ h2)⟩
  | _ => exact q2.elim
omit [KC] in
theorem loop_id {S : Type} {g : WG} {wb : WS} {q : DEnds} (env : S → Ev) (P : List D → S → Prop) (hnil : ∀ s, P [] s → q.nx (env s))
    (hstep : ∀ a r s (L : Ev → Prop), P (a :: r) s → (∀ s', P r s' → L (env s')) → g a (env s) fun ρ1 => wb ⟨L, q.rt, q.nx, L, q.ex⟩ ρ1) (xs : List D) (s0 : S) (h : P xs s0) : loopL g wb q xs (env s0) := by
  have := loop_ind id env P hnil hstep xs s0 h
  rwa [List.map_id] at this
end
end NL

/-! Dicts whose keys are texts: made, copied, read, written, walked, sorted by their pairs; a def that changes the dict handed in last. -/
namespace NL
open PySem PySem.Spec L2
open PyProof.Rows hiding St
/-! ### what a dict holds -/
def lkK (ks : List Key) (xs : List D) (k : Key) : Option D := ((ks.zip xs).find? fun p => decide (p.1 = k)).map (·.2)
def putKs (ks : List Key) (k : Key) : List Key := if (ks.any fun j => decide (j = k)) = true then ks else ks ++ [k]
def putXs (ks : List Key) (xs : List D) (k : Key) (d : D) : List D := if (ks.any fun j => decide (j = k)) = true then (ks.zip xs).map (fun p => if p.1 = k then d else p.2) else xs ++ [d]
def keyD : Key → D
  | .inl i => .int i
  | .inr s => .str s
def itemsD (ks : List Key) (xs : List D) : List D := (ks.zip xs).map fun p => .tup [keyD p.1, p.2]
variable [KC]
section
variable {S : Hp}
theorem keyD_dat : ∀ (k : Key), Dat S (keyD k) (kV k)
  | .inl _ => .i
  | .inr _ => .s
theorem lkK_dat (k : Key) : ∀ (kvs : List (Key × V)) (xs : List D), Dats S xs (kvs.map (·.2)) →
    (lkK (kvs.map (·.1)) xs k = none ∧ valV kvs k = none) ∨ ∃ d v, lkK (kvs.map (·.1)) xs k = some d ∧ valV kvs k = some v ∧ Dat S d v
  | [], xs, h => .inl ⟨rfl, rfl⟩
  | p :: kvs, [], h => by unfold Dats at h; cases h
  | p :: kvs, x :: xs, h => by
    unfold Dats at h
    obtain ⟨v, r, e, h1, h2⟩ := h
    rw [List.map_cons] at e
    cases e
    by_cases q : p.1 = k
    · exact .inr ⟨x, p.2, by simp [lkK, q], valV_pos q, h1⟩
    · have e1 : lkK (p.1 :: kvs.map (·.1)) (x :: xs) k = lkK (kvs.map (·.1)) xs k := by simp [lkK, q]
      rw [List.map_cons, e1, valV_neg q]
      exact lkK_dat k kvs xs h2
theorem any_map (k : Key) (kvs : List (Key × V)) : (kvs.any fun kv => decide (kv.1 = k)) = ((kvs.map (·.1)).any fun j => decide (j = k)) := by
  rw [List.any_map]
  rfl
theorem repl_dat (k : Key) {d : D} {v : V} (hd : Dat S d v) : ∀ (kvs : List (Key × V)) (xs : List D), Dats S xs (kvs.map (·.2)) →
    Dats S (((kvs.map (·.1)).zip xs).map fun p => if p.1 = k then d else p.2) ((kvs.map fun kv => if kv.1 = k then (kv.1, v) else kv).map (·.2))
  | [], xs, h => by simp; exact .nil
  | p :: kvs, [], h => by unfold Dats at h; cases h
  | p :: kvs, x :: xs, h => by
    unfold Dats at h
    obtain ⟨u, r, e, h1, h2⟩ := h
    rw [List.map_cons] at e
    cases e
    simp only [List.map_cons, List.zip_cons_cons]
    refine .cons ?_ (repl_dat k hd kvs xs h2)
    by_cases q : p.1 = k
    · rw [if_pos q, if_pos q]; exact hd
    · rw [if_neg q, if_neg q]; exact h1
theorem put_dat (k : Key) {d : D} {v : V} {kvs : List (Key × V)} {xs : List D} (hd : Dat S d v) (h : Dats S xs (kvs.map (·.2))) :
    (putK kvs k v).map (·.1) = putKs (kvs.map (·.1)) k ∧ Dats S (putXs (kvs.map (·.1)) xs k d) ((putK kvs k v).map (·.2)) := by
  unfold putK putKs putXs
  rw [any_map]
  by_cases c : ((kvs.map (·.1)).any fun j => decide (j = k)) = true
  · rw [if_pos c, if_pos c, if_pos c]
    refine ⟨?_, repl_dat k hd kvs xs h⟩
    rw [List.map_map]
    refine List.map_congr_left fun p _ => ?_
    show (if p.1 = k then (p.1, v) else p).1 = p.1
    split <;> rfl
  · rw [if_neg c, if_neg c, if_neg c]
    refine ⟨by simp, ?_⟩
    rw [List.map_append]
    exact h.app (.one hd)
end
section
variable {X : Cx} {E : XK} {e a b o f : Expr} {es : List Expr} {sts : List Stmt} {pos p apos cpos : Pos} {x : Str} {w wa wb wo we wk wv : WE} {ws wu : WS} {wl : WL}
/-! ### new dicts -/
abbrev WGd := XS → Ev → (List Key → List D → Prop) → Prop
structure DG (X : Cx) (E : XK) (e : Expr) (w : WGd) : Prop where
  ex : ∃ t, PE X e t ∧ ∀ (x : XS) (ρ : Ev) (Q : List Key → List D → Prop), w x ρ Q → ∀ (F : Fr) (σ : L2.St) (H S : Hp) (Q' : VK), Rep F ρ σ H S → ExOk X.mg E x H S →
    (∀ ks xs p kvs H' S', Q ks xs → Grow H S H' S' → H p = none → S' p = none → H' p = some (.dK kvs) → kvs.map (·.1) = ks → Dats S' xs (kvs.map (·.2)) → Q' (.ref p) H') → t σ H Q'
def wgd0 : WGd := fun _ _ Q => Q [] []
theorem dg_new : DG X E (.Dict [] [] pos) wgd0 := by
  refine ⟨_, pe_dnewK, fun x ρ Q hw F σ H S Q' rp ex k => fun p hp => ?_⟩
  have g0 : Grow H S H S := .refl rp.fg.sh
  exact k [] [] p [] _ S hw (g0.lay hp) hp (g0.freeS hp) upd_same rfl .nil
omit [KC] in
theorem call_dictC : CallR X (.type "dict") (fun xs H Q => ∃ a kvs, xs = [.ref a] ∧ Rd H a (.dK kvs) ∧ ∀ p, H p = none → Q (.ref p) (upd H p (.dK kvs))) := by
  intro pins s σ H xs us Q I r h
  obtain ⟨a, kvs, rfl, ha, q⟩ := h
  obtain rfl := Vals.ref1 r
  exact d_copyOf I ha fun p s' hp I' => ⟨.ref p, _, I', rfl, q p hp⟩
def wgdC (wa : WE) : WGd := fun x ρ Q => wa x ρ fun d => match d with
  | .dkz ks xs => Q ks xs
  | .dct ks xs => Q ks xs
  | _ => False
theorem dg_copy (hg : Gl X "dict") (hm : X.mg "dict" = none) (ha : BD X E a wa) (he : starEach [a] X.env = (false, eval a X.env) :: starEach [] X.env := by rfl) : DG X E (.Call (.Name "dict" p) [a] [] pos) (wgdC wa) := by
  obtain ⟨t, pt, s⟩ := ha.ex
  refine ⟨_, pe_callTy call_dictC hg hm (by decide +kernel) (pa_cons pt pa_nil he) (by decide) (by decide) he (by rfl), fun x ρ Q hw F σ H S Q' rp ex k => ?_⟩
  refine s x ρ _ hw F σ H S _ rp ex fun d v H1 S1 q1 g1 h1 => ?_
  split at q1
  · simp only [BDat, Dat] at h1
    obtain ⟨a, o, kvs, rfl, r, e, z⟩ := h1
    exact ⟨a, kvs, rfl, .inr ⟨o, g1.sh _ _ r⟩, fun p hp => k _ _ p kvs _ S1 q1 (g1.lay hp) (g1.freeH hp) (g1.freeS hp) upd_same e z⟩
  · obtain ⟨a, kvs, rfl, r, e, z⟩ := h1
    exact ⟨a, kvs, rfl, .inl r, fun p hp => k _ _ p kvs _ S1 q1 (g1.lay hp) (g1.freeH hp) (g1.freeS hp) upd_same e z⟩
  · exact q1.elim
def wsSetG (i : Nat) (wl : WGd) : WS := fun q ρ => wl q.ex ρ fun ks xs => q.nx (ρ.set i (.own false (.dct ks xs)))
theorem sd_setG (i : Nat) {wl : WGd} {x : Str} {p : Pos} (hN : X.N.Nodup) (he : DG X E e wl) (hi : X.N[i]? = some x := by rfl) (hx : Loc X.env.scope x := by first | exact Or.inl rfl | exact Or.inr rfl) (hs : swapsWith e (some (.Name x p)) pos.line X.env = pure false := by rfl)
    (hf : X.fn x = true ∨ X.env.scope.names.lookup x = some .local := by first | exact .inl rfl | exact .inr rfl) : SD X E (.Assign [.Name x p] e pos) (wsSetG i wl) := by
  obtain ⟨t, pe, s⟩ := he.ex
  refine ⟨_, ps_set hN hi hx pe hs hf, fun q ρ hw F σ H S D rp o => ?_⟩
  exact s q.ex ρ _ hw F σ H S _ rp (o.exOk rp) fun ks xs p vs H1 S1 q1 g1 h0 h1 h2 h3 hd => o.nx _ _ H1 S1 q1 ((rp.grow g1).setOwn h1 h2 ⟨vs, rfl, h3, hd⟩ (fg_free rp.fg h0) (own_ne rp h0))
/-! ### locked and shared -/
theorem Rep.lck {F : Fr} {ρ : Ev} {σ : L2.St} {H S : Hp} {i : Nat} {ks : List Key} {xs : List D} (r : Rep F ρ σ H S) (h : ρ[i]? = some (.own false (.dct ks xs))) :
    ∃ p kvs, H p = some (.dK kvs) ∧ ∀ od, Rep F (ρ.set i (.fz (.dkz ks xs))) σ (upd H p (.frz od (.dK kvs))) (upd S p (.frz od (.dK kvs))) := by
  obtain ⟨p, o, e1, e2, e3, e4, _, e6⟩ := r.own h
  have h0 := e6 rfl
  obtain ⟨kvs, rfl, c1, c2⟩ := e4
  have hl : i < ρ.length := (List.getElem?_eq_some_iff.mp h).1
  refine ⟨p, kvs, e3, fun od => ?_⟩
  have ss : Same S (upd S p (.frz od (.dK kvs))) := same_upd e2
  have et := ExtT.put (o' := .frz od (.dK kvs)) e3 (fun _ z => by cases z) (fun _ z => by cases z)
  refine ⟨⟨fun a o m ha n => ?_, fun a ha => ?_, r.fg.ss.trans ss, fun a o ha => ?_, fun a ha => ?_, fun P q h => et.2 P q (r.fg.ft P q h), fun q h => et.2 _ _ (r.fg.tb q h)⟩, by simp [r.len], fun j sl e => ?_, fun j k m1 m2 c1 c2 n q1 q2 => ?_⟩
  · rw [upd_ne (fun z => by rw [z, h0] at ha; cases ha)]
    exact r.fg.hh a o m ha n
  · exact et.1 a (r.fg.al a ha)
  · by_cases z : a = p
    · subst z
      rw [upd_same] at ha ⊢
      exact ha
    · rw [upd_ne z] at ha ⊢
      exact r.fg.sh a o ha
  · rw [upd_ne (fun z => ha (by rw [z]; exact h0))]
    exact r.fg.nw a ha
  · by_cases z : i = j
    · subst z
      rw [List.getElem?_set_self hl] at e
      cases e
      refine ⟨.ref p, e1, ?_⟩
      unfold Dat
      exact ⟨p, od, kvs, rfl, upd_same, c1, Dats.mono ss _ _ c2⟩
    · rw [List.getElem?_set_ne z] at e
      have q := r.at' j sl e
      cases sl with
      | un => trivial
      | fz d =>
        obtain ⟨v, f1, f2⟩ := q
        exact ⟨v, f1, Dat.mono ss d v f2⟩
      | own m3 c3 =>
        obtain ⟨p3, o3, f1, f2, f3, f4, f5⟩ := q
        have ne : p3 ≠ p := fun z3 => r.dist i j false m3 _ c3 z h e (by rw [e1, f1, z3])
        exact ⟨p3, o3, f1, by rw [upd_ne ne]; exact f2, by rw [upd_ne ne]; exact f3, f4.mono ss, f5⟩
  · have conv : ∀ (l : Nat) (m4 : Bool) (c4 : Cn), (ρ.set i (.fz (.dkz ks xs)))[l]? = some (.own m4 c4) → ρ[l]? = some (.own m4 c4) := fun l m4 c4 q => by
      by_cases z : i = l
      · subst z
        rw [List.getElem?_set_self hl] at q
        cases q
      · rw [List.getElem?_set_ne z] at q
        exact q
    exact r.dist j k _ _ _ _ n (conv _ _ _ q1) (conv _ _ _ q2)
/-- from here on the slot's own dict is locked and shared -/
def wLck (i : Nat) (w : WS) : WS := fun q ρ => match ρ[i]? with
  | some (.own false (.dct ks xs)) => w q (ρ.set i (.fz (.dkz ks xs)))
  | some (.fz _) => w q ρ
  | _ => False
theorem sds_lck (i : Nat) (h : SDs X E sts ws) : SDs X E sts (wLck i ws) := by
  obtain ⟨t, p, s⟩ := h.ex
  refine ⟨fun D σ H => t D σ H ∨ ∃ d u, H d = some u ∧ Mut (some u) ∧ ∀ od, t D σ (upd H d (.frz od u)), ⟨fun pins s σ H D I hq => ?_⟩, fun q ρ hw F σ H S D rp o => ?_⟩
  · rcases hq with hq | ⟨d, u, hd, mu, hq⟩
    · exact p.run pins s σ H D I hq
    · obtain ⟨od, I1⟩ := I.lock hd mu
      exact p.run pins s σ _ D I1 (hq od)
  · unfold wLck at hw
    split at hw
    · rename_i ks xs hi
      obtain ⟨p, kvs, hp, r⟩ := rp.lck hi
      exact .inr ⟨p, .dK kvs, hp, True.intro, fun od => s q _ hw F σ _ _ D (r od) o⟩
    · exact .inl (s q ρ hw F σ H S D rp o)
    · exact hw.elim
/-- {k: v}, k a text, locked at once -/
def wDctL (wk wv : WE) : WE := fun x ρ Q => wk x ρ fun d => wv x ρ fun e => match d with
  | .str s => Q (.dkz [.inr s] [e])
  | _ => False
omit [KC] in
theorem pe_lck {t : TE} (h : PE X e t) : PE X e (fun σ H Q => t σ H fun v H' => ∃ d u, v = .ref d ∧ H' d = some u ∧ Mut (some u) ∧ ∀ od, Q v (upd H' d (.frz od u))) := by
  refine ⟨fun pins s σ H Q I hq => thn (h.run pins s σ H _ I hq) fun v s1 ⟨x, H1, I1, r, d, u, e1, e2, mu, q⟩ => ?_⟩
  obtain ⟨od, I2⟩ := I1.lock e2 mu
  exact ⟨x, _, I2, r, q od⟩
theorem ed_dctL {ek ev : Expr} (hk : ED X E ek wk) (hv : ED X E ev wv) : ED X E (.Dict [some ek] [ev] pos) (wDctL wk wv) := by
  obtain ⟨tk, pk, sk⟩ := hk.ex
  obtain ⟨tv, pv, sv⟩ := hv.ex
  refine ⟨_, pe_lck (pe_disp (pps_cons pk pv pps_nil) rfl rfl (by simp) (by simp)), fun x ρ Q hw F σ H S Q' rp ex k => fun a h0 => ?_⟩
  have g0 : Grow H S H S := .refl rp.fg.sh
  have ga : Grow H S (upd H a (.dK [])) S := g0.lay h0
  refine sk x ρ _ hw F σ _ S _ (rp.grow ga) (ex.grow ga) fun d u H1 S1 q1 g1 h1 => ?_
  refine sv x ρ _ q1 F σ H1 S1 _ (rp.grow (ga.trans g1)) (ex.grow (ga.trans g1)) fun e v H2 S2 q2 g2 h2 => ?_
  have gg := ga.trans (g1.trans g2)
  have hH : H2 a = some (.dK []) := (g1.trans g2).hh.dK upd_same
  cases d with
  | str s =>
    unfold Dat at h1
    subst h1
    refine ⟨hH, [(.inr s, v)], rfl, by simp, ?_⟩
    have hS : S2 a = none := by
      rw [(g1.trans g2).nw a (by rw [upd_same]; intro z; cases z)]
      exact g0.freeS h0
    have hm : mergeK [] [((.inr s : Key), v)] = [(.inr s, v)] := rfl
    rw [hm]
    refine ⟨a, .dK [(.inr s, v)], rfl, upd_same, True.intro, fun od => ?_⟩
    have e0 : upd (upd H2 a (.dK [(.inr s, v)])) a (.frz od (.dK [(.inr s, v)])) = upd H2 a (.frz od (.dK [(.inr s, v)])) := by
      funext b
      by_cases z : b = a
      · subst z; rw [upd_same, upd_same]
      · rw [upd_ne z, upd_ne z, upd_ne z]
    rw [e0]
    refine k (.dkz [.inr s] [e]) _ _ (upd S2 a (.frz od (.dK [(.inr s, v)]))) q2 ⟨gg.hh.over h0 hH (fun _ z => by cases z) (fun _ z => by cases z), gg.ss.trans (same_upd hS), fun b o e => ?_, fun b hb => ?_⟩ ?_
    · by_cases z : b = a
      · subst z
        rw [upd_same] at e ⊢
        exact e
      · rw [upd_ne z] at e ⊢
        exact gg.sh b o e
    · have ne : b ≠ a := fun z => by subst z; exact hb h0
      rw [upd_ne ne]
      exact gg.nw b hb
    · unfold Dat
      exact ⟨a, od, [(.inr s, v)], rfl, upd_same, rfl, Dats.one (Dat.mono (same_upd hS) _ _ h2)⟩
  | _ => exact q2.elim
/-! ### d.get(k, z), d[k] = e -/
def dctOf : D → Option (List Key × List D)
  | .dct ks xs => some (ks, xs)
  | .dkz ks xs => some (ks, xs)
  | _ => none
def wGetD (wo wk wz : WE) : WE := fun x ρ Q => wo x ρ fun d => match dctOf d with
  | some m => wk x ρ fun k => wz x ρ fun z => match k with
    | .str s => Q ((lkK m.1 m.2 (.inr s)).getD z)
    | _ => False
  | none => False
theorem ed_getD {k : Nat} (hr : Room k X.A) (ho : BD X E o wo) (he : ED X E e wk) (hf : ED X E f wv) (hbase : attributeBase o "get" X.env (eval o X.env) = eval o X.env := by rfl)
    (hfew : ((backTo cpos (starEach [e, f] X.env)).all (fun x => !x.1) && (backToKw cpos (keywordEach [] X.env)).all (fun x => x.1.isSome)
    && decide (([e, f] : List Expr).length + ([] : List Keyword).length + (if ([] : List Keyword).isEmpty then 0 else 1) < 30)) = true := by rfl) (hline : (apos.endLine == cpos.line) = true := by rfl)
    (htr : backTo cpos (starEach [e, f] X.env) = [(false, eval e X.env), (false, eval f X.env)] := by rfl) : ED X E (.Call (.Attribute o "get" apos) [e, f] [] cpos) (wGetD wo wk wv) := by
  obtain ⟨to, po, so⟩ := ho.ex
  obtain ⟨te, pe, se⟩ := he.ex
  obtain ⟨tf, pf, sf⟩ := hf.ex
  refine ⟨_, pe_dget2 (show X.A.units + 1 < cLine by have := hr.units; omega) po pe pf ⟨hbase, hfew, hline, htr⟩, fun x ρ Q hw F σ H S Q' rp ex k => ?_⟩
  refine so x ρ _ hw F σ H S _ rp ex fun d u H1 S1 q1 g1 h1 => ?_
  split at q1
  · rename_i m hm
    have key : ∃ a kvs, u = .ref a ∧ Rd H1 a (.dK kvs) ∧ kvs.map (·.1) = m.1 ∧ Dats S1 m.2 (kvs.map (·.2)) ∧ ∀ H' S', Grow H1 S1 H' S' → Rd H' a (.dK kvs) := by
      cases d with
      | dct ks xs =>
        cases hm
        obtain ⟨a, kvs, rfl, r, z1, z2⟩ := h1
        exact ⟨a, kvs, rfl, .inl r, z1, z2, fun H' S' g => .inl (g.hh.dK r)⟩
      | dkz ks xs =>
        cases hm
        simp only [BDat, Dat] at h1
        obtain ⟨a, o, kvs, rfl, r, z1, z2⟩ := h1
        exact ⟨a, kvs, rfl, .inr ⟨o, g1.sh _ _ r⟩, z1, z2, fun H' S' g => .inr ⟨o, g.sh _ _ (g.ss _ _ r)⟩⟩
      | _ => cases hm
    obtain ⟨a, kvs, rfl, r, z1, z2, z3⟩ := key
    refine ⟨a, rfl, .inl ⟨kvs, r⟩, ?_⟩
    refine se x ρ _ q1 F σ H1 S1 _ (rp.grow g1) (ex.grow g1) fun dk vk H2 S2 q2 g2 h2 => ?_
    refine sf x ρ _ q2 F σ H2 S2 _ (rp.grow (g1.trans g2)) (ex.grow (g1.trans g2)) fun dz vz H3 S3 q3 g3 h3 => ?_
    cases dk with
    | str s =>
      unfold Dat at h2
      subst h2
      refine ⟨_, .inl ⟨kvs, .inr s, z3 H3 S3 (g2.trans g3), rfl, rfl⟩, ?_⟩
      have q3 : Q ((lkK m.1 m.2 (.inr s)).getD dz) := q3
      rw [← z1] at q3
      rcases lkK_dat (.inr s) kvs m.2 z2 with ⟨l1, l2⟩ | ⟨d, v, l1, l2, l3⟩
      · rw [l2]
        rw [l1] at q3
        exact k _ _ H3 S3 q3 ((g1.trans g2).trans g3) h3
      · rw [l2]
        rw [l1] at q3
        exact k _ _ H3 S3 q3 ((g1.trans g2).trans g3) (Dat.mono (g2.trans g3).ss _ _ l3)
    | _ => exact q3.elim
  · exact q1.elim
def wsSetKey (i : Nat) (w wb : WE) : WS := fun q ρ => w q.ex ρ fun d => match ρ[i]? with
  | some (.own m (.dct ks xs)) => wb q.ex ρ fun k => match k with
    | .str s => xs.length < sizeLine ∧ q.nx (ρ.set i (.own m (.dct (putKs ks (.inr s)) (putXs ks xs (.inr s) d))))
    | _ => False
  | _ => False
theorem sd_setKey (i : Nat) {k : Nat} {tpos : Pos} (hr : Room k X.A) (he : ED X E e w) (hb : ED X E b wb) (hN : X.N[i]? = some x := by rfl) (hv : Vis X.env.scope x := by first | exact Or.inl rfl | exact Or.inr (Or.inl rfl) | exact Or.inr (Or.inr rfl)) (hd : (x == ("__debug__" : Str)) = false := by decide) (hcd : (x == ("__classdict__" : Str)) = false := by decide)
    (hs : swapsWith e (some (.Subscript (.Name x p) b tpos)) pos.line X.env = pure false := by rfl) :
    SD X E (.Assign [.Subscript (.Name x p) b tpos] e pos) (wsSetKey i w wb) := by
  obtain ⟨t, pe, s⟩ := he.ex
  obtain ⟨tb, pb, sb⟩ := hb.ex
  refine ⟨_, ps_dput (show X.A.units + 1 < cLine by have := hr.units; omega) (pe_var hN hv hd hcd) pb pe hs, fun q ρ hw F σ H S D rp o => ?_⟩
  refine s q.ex ρ _ hw F σ H S _ rp (o.exOk rp) fun d v H1 S1 q1 g1 h1 => ?_
  split at q1
  · rename_i m ks xs hi
    have rp1 := rp.grow g1
    obtain ⟨l, u, e, z1, z2, ⟨kvs, rfl, z3, z4⟩, _⟩ := rp1.own hi
    refine ⟨.ref l, e, sb q.ex ρ _ q1 F σ H1 S1 _ rp1 (o.exOk rp1) fun k kv H2 S2 q2 g2 h2 => ?_⟩
    cases k with
    | str s =>
      unfold Dat at h2
      subst h2
      obtain ⟨hl, q2⟩ := q2
      have z5 := z4.len
      rw [List.length_map] at z5
      obtain ⟨w1, w2⟩ := put_dat (.inr s) (Dat.mono g2.ss _ _ h1) (Dats.mono g2.ss _ _ z4)
      rw [z3] at w1 w2
      exact ⟨l, _, rfl, .inl ⟨kvs, .inr s, g2.hh.dK z2, rfl, by omega, rfl⟩, o.nx _ _ _ S2 q2 ((rp1.grow g2).put hi e ⟨_, rfl, w1, w2⟩)⟩
    | _ => exact q2.elim
  · exact q1.elim
/-! ### for k, v in d.items() -/
def wItems (wa : WE) : WL := fun x ρ Q => wa x ρ fun d => match d with
  | .dkz ks xs => Q (itemsD ks xs)
  | _ => False
theorem id_items {elts : List Expr} {kk : Nat} {tpos : Pos} (ha : ED X E a wa) (hbase : attributeBase a "items" X.env (eval a X.env) = eval a X.env := by rfl) (hline : (apos.endLine == cpos.line) = true := by rfl) :
    ID X E (.Tuple elts kk tpos) (.Call (.Attribute a "items" apos) [] [] cpos) (wItems wa) := by
  obtain ⟨t, pt, s⟩ := ha.ex
  refine ⟨_, pi_items pt hbase hline, fun x ρ Q hw F σ H S R rp ex k => ?_⟩
  refine s x ρ _ hw F σ H S _ rp ex fun d u H1 S1 q1 g1 h1 => ?_
  cases d with
  | dkz ks xs =>
    unfold Dat at h1
    obtain ⟨a, od, kvs, rfl, r, z1, z2⟩ := h1
    subst z1
    refine ⟨a, od, kvs, rfl, g1.sh _ _ r, k _ _ H1 S1 q1 g1 fun i H S e1 e2 => ?_⟩
    have hs : H a = some (.frz od (.dK kvs)) := e2 _ _ (e1 _ _ r)
    have zl := z2.len
    rw [List.length_map] at zl
    refine ⟨fun d hd => ?_, fun hl => ⟨hs, by unfold itemsD at hl; simp at hl; omega⟩⟩
    unfold itemsD at hd
    rw [List.getElem?_map] at hd
    cases q : ((kvs.map (·.1)).zip xs)[i]? with
    | none => rw [q] at hd; cases hd
    | some pr =>
      rw [q] at hd
      cases hd
      obtain ⟨q1, q2⟩ := List.getElem?_zip_eq_some.mp q
      rw [List.getElem?_map] at q1
      cases q3 : kvs[i]? with
      | none => rw [q3] at q1; cases q1
      | some kv =>
        rw [q3] at q1
        obtain ⟨v, hv, hz⟩ := z2.get q2
        rw [List.getElem?_map, q3] at hv
        cases hv
        refine ⟨⟨hs, (List.getElem?_eq_some_iff.mp q3).1⟩, fun x H' y => ?_⟩
        obtain ⟨T, k', v', y1, rfl, hT, rfl⟩ := y
        rw [q3] at y1
        cases y1
        cases q1
        obtain ⟨g, dd⟩ := lay_tup e2 hT (.cons (keyD_dat _) (.one (Dat.mono e1 _ _ hz)))
        exact ⟨_, g, dd⟩
  | _ => exact q1.elim
/-! ### sorted(d.items()) -/
omit [KC] in
theorem pairs_get {prog : Program} {w : World} {K : Type} [DecidableEq K] {knd : PySem.KeyKind prog w K} : ∀ {es : List DictEntry} {kvs : List (K × Value)}, Pairs knd es kvs → ∀ {j : Nat} {e : DictEntry}, es[j]? = some e → ∃ kv, kvs[j]? = some kv ∧ knd.is kv.1 e.key = true ∧ e.val = kv.2
  | _, _, .nil, j, e, h => by simp at h
  | _, _, .cons h1 h2 r, 0, e, h => by
    simp at h
    subst h
    exact ⟨_, rfl, h1, h2⟩
  | _, _, .cons h1 h2 r, j + 1, e, h => by
    simp at h
    exact pairs_get r h
omit [KC] in
/-- new pairs are tracked -/
theorem tups_laid {pins : List (Addr × Obj)} {σ : L2.St} {H : Hp} {s : Shared} {h' : Heap} {tk : Nat} {kvs : List (Key × V)} {vs : List (Key × Value)} {as : List Addr} (I : Inv X pins σ H s) (kv : KV kvs vs)
    (hk : ∀ b o, s.heap.get? b = some o → h'.get? b = some o) (hl : as.length = vs.length) (ri : as.Pairwise (· < ·)) (ab : ∀ a ∈ as, s.heap.objs.size ≤ a)
    (hG : ∀ (j : Nat) (a : Addr), as[j]? = some a → ∃ key k x, vs[j]? = some (k, x) ∧ keyIs k key = true ∧ h'.get? a = some { cls := .type "tuple", data := .seq #[key, x] }) :
    (∀ b o, H b = some o → LiI.putT H as kvs b = some o) ∧ (∀ t ∈ as, H t = none) ∧ Paired (fun (t : Addr) (q : Key × V) => LiI.putT H as kvs t = some (.tup [kV q.1, q.2])) as kvs ∧ Inv X pins σ (LiI.putT H as kvs) { s with heap := h', toks := tk } := by
  have lk : kvs.length = vs.length := Paired.length kv
  have nd : as.Nodup := List.Pairwise.imp (fun {a b} (h : a < b) => Nat.ne_of_lt h) ri
  have new : ∀ t ∈ as, H t = none := fun t ht => I.hok.fresh (ab t ht)
  have atP := LiI.putT_at as kvs H (by omega) nd
  have off : ∀ b, b ∉ as → LiI.putT H as kvs b = H b := fun b h1 => LiI.putT_off as kvs _ h1
  have low : ∀ b o, s.heap.get? b = some o → b ∉ as := fun b o e z => absurd (Heap.lt_size e) (Nat.not_lt.mpr (ab b z))
  have kp : ∀ b u, H b = some u → LiI.putT H as kvs b = some u := fun b u e => by
    rw [off b (fun z => by rw [new b z] at e; cases e)]
    exact e
  refine ⟨kp, new, atP, ?_⟩
  refine I.call' (ch := []) rfl ⟨fun b o q _ _ _ => hk b o q, fun b o q _ _ _ => ⟨o.slots, hk b o q⟩, fun b o q n _ => ?_, fun b o q _ => ⟨o, hk b o q⟩, fun b xs q => kp b _ q, fun b o u q => kp b _ q, fun b ps q => ⟨#[], by rw [kp b _ q]; simp⟩⟩ (fun b u q => ?_) I.bare fun b z => by simp at z
  · rw [off b (low b o q)]
    exact n
  · by_cases hb : b ∈ as
    · obtain ⟨j, pk, e1, e2, e3⟩ := LiI.paired_ix atP hb
      rw [e3] at q
      cases q
      obtain ⟨key, k, x, f1, f2, f3⟩ := hG j b e1
      obtain ⟨qv, g1, g2, g3⟩ := LiI.paired_get kv e2
      rw [f1] at g1
      cases g1
      have rk : RelV (kV pk.1) key := by
        rw [g2]
        exact relV_key f2
      exact ⟨by show 2 ≤ sizeLine; decide, [key, x], .cons rk (.cons g3 .nil), ⟨_, f3, rfl, _, rfl⟩⟩
    · rw [off b hb] at q
      exact (I.hok b u q).stay (fun d v _ y => hk d v y) (fun d y => kp d _ y) fun d xs y => kp d _ y
def tSortItems (td : TE) : TE := fun σ H Q => td σ H fun x H1 => ∃ a od kvs S xs, x = .ref a ∧ Same S H1 ∧ H1 a = some (.frz od (.dK kvs)) ∧ Dats S xs (kvs.map (·.2)) ∧ kvs.length ≤ sizeLine ∧ Srt1 (itemsD (kvs.map (·.1)) xs) ∧
  ∀ p ws H' S', Grow H1 S H' S' → H1 p = none → S' p = none → H' p = some (.lst ws) → Dats S' (sorD (itemsD (kvs.map (·.1)) xs)) ws → Q (.ref p) H'
/-- the pairs, shared -/
theorem tups_grow {H S : Hp} {xs : List D} : ∀ {as : List Addr} {kvs : List (Key × V)}, Same S H → Dats S xs (kvs.map (·.2)) → as.length = kvs.length → as.Nodup → (∀ t ∈ as, H t = none) →
    ∃ S', Grow H S (LiI.putT H as kvs) S' ∧ (∀ b, b ∉ as → S' b = S b) ∧ Dats S' (itemsD (kvs.map (·.1)) xs) (as.map V.ref) := by
  intro as kvs sh hd hl hn hnew
  refine ⟨LiI.putT S as kvs, ⟨.of fun b o e => ?_, fun b o e => ?_, fun b o e => ?_, fun b hb => ?_⟩, fun b hb => LiI.putT_off as kvs _ hb, ?_⟩
  · rw [LiI.putT_off as kvs _ (fun z => by rw [hnew b z] at e; cases e)]
    exact e
  · rw [LiI.putT_off as kvs _ (fun z => by rw [sh.free (hnew b z)] at e; cases e)]
    exact e
  · by_cases hb : b ∈ as
    · obtain ⟨j, pk, e1, e2, e3⟩ := LiI.paired_ix (LiI.putT_at as kvs S hl hn) hb
      rw [e3] at e
      cases e
      obtain ⟨pk', e4, e5⟩ := LiI.paired_get (LiI.putT_at as kvs H hl hn) e1
      rw [e2] at e4
      cases e4
      exact e5
    · rw [LiI.putT_off as kvs _ hb] at e ⊢
      exact sh b o e
  · rw [LiI.putT_off as kvs _ (fun z => hb (hnew b z))]
  · have ss : Same S (LiI.putT S as kvs) := fun b o e => by
      rw [LiI.putT_off as kvs _ (fun z => by rw [sh.free (hnew b z)] at e; cases e)]
      exact e
    have hd' := Dats.mono ss _ _ hd
    have atS := LiI.putT_at as kvs S hl hn
    generalize LiI.putT S as kvs = T at hd' atS
    clear hnew hn ss hd sh
    induction atS generalizing xs with
    | nil =>
      unfold itemsD
      simp
      exact .nil
    | @cons a p as kvs h1 _ ih =>
      rw [List.map_cons] at hd'
      cases xs with
      | nil => unfold Dats at hd'; cases hd'
      | cons x xs =>
        unfold Dats at hd'
        obtain ⟨v, r, e, d1, d2⟩ := hd'
        cases e
        refine .cons ?_ (ih (by simpa using hl) d2)
        unfold Dat
        exact ⟨a, _, rfl, h1, .cons (keyD_dat _) (.one d1)⟩
theorem pe_sortItems {td : TE} {k : Nat} (hc : X.calm = true) (hr : Room k X.A) (he : PE X a td) (hg : Gl X "sorted") (hm : X.mg "sorted" = none) (hbase : attributeBase a "items" X.env (eval a X.env) = eval a X.env) (hline : (apos.endLine == cpos.line) = true)
    (hs : starEach [.Call (.Attribute a "items" apos) [] [] cpos] X.env = (false, eval (.Call (.Attribute a "items" apos) [] [] cpos) X.env) :: starEach [] X.env) :
    PE X (.Call (.Name "sorted" p) [.Call (.Attribute a "items" apos) [] [] cpos] [] pos) (tSortItems td) := by
  refine ⟨fun pins s σ H Q I hq => ?_⟩
  refine wpAny_Call_Name_kw (ld_blt (u := .builtin "sorted") I hg hm (by decide +kernel) ?_)
  refine PyProof.Rows.callWith_builtin1 ?_ hs rfl
  rw [hs]
  show wpAny _ _ (spliced ((false, eval (.Call (.Attribute a "items" apos) [] [] cpos) X.env) :: backTo pos (starEach [] X.env))) _ _ s
  refine Calls.spliced_cons ?_
  refine wpAny_Call_method (T := "dict") (id := "dict.items") hbase rfl hline F.plainAttrs_dict F.slot_dict_items F.type_dict_items (thn (he.run pins s σ H _ I hq) fun u s1 ⟨x, H1, I1, rx, d, od, kvs, S, xs, ex, sh, hd, dd, hz, hsrt, q⟩ => ?_)
  subst ex
  obtain rfl : u = Value.ref d := rx
  obtain ⟨hs0, hgd, hx, es, ep, vs, hdt, hsz, kv, hm⟩ := I1.frzK hd
  refine ⟨hm.dictOf.typeIs, hm.dictOf.mapOf.noDict, ?_⟩
  show wpAny _ _ (callWith cpos (.builtin "dict.items") [.ref d] [] []) _ X.xe s1
  refine method_meetsIn F.slot_dict_items F.entry_dict_items rfl (PySem.evalArgs_none ⟨rfl, hm.dictOf.typeIs, F.args_dict_items_1 _, _, meets_dict_items (mixKind X.prog X.w) d hs0, ⟨vs, hm.dictOf⟩, ?_⟩)
  refine Calls.spliced_nil ?_
  have I2 : Inv X pins σ H1 { s1 with heap := s1.heap.push { cls := .type "dict_items", data := .fields #[.ref d] } } := I1.kept (t' := s1.toks) fun b ob q => Heap.get?_push_of_some _ q
  have lk : kvs.length = vs.length := Paired.length kv
  refine DT.sortedI (es := es) (ep := ep) (I1.ok.hd hc) ⟨_, Heap.get?_push_size _ rfl, rfl, rfl⟩ ⟨od, Heap.get?_push_of_some _ hgd, hx, hdt⟩ (by omega) fun h' tk as hk hlt hl hG => ?_
  obtain ⟨o', es', ho', hx', hdt', _, hpr, _⟩ := hm
  rw [hgd] at ho'
  cases ho'
  rw [hdt] at hdt'
  cases hdt'
  have al : as.length = kvs.length := by omega
  have nd : as.Nodup := List.Pairwise.imp (fun {a b} (h : a < b) => Nat.ne_of_lt h) hG.rise
  obtain ⟨kp, new, atP, I3⟩ := tups_laid (tk := tk) (as := as) I2 kv hk (by omega) hG.rise (fun a ha => Nat.le_of_lt (hG.above a ha)) fun j a hj => by
    obtain ⟨en, he1, he2⟩ := hG.pairs j a hj
    obtain ⟨kv', e1, e2, e3⟩ := pairs_get hpr (by rw [Array.getElem?_toList]; exact he1)
    exact ⟨en.key, kv'.1, kv'.2, e1, e2, by rw [he2, e3]⟩
  obtain ⟨S', g, offS, dats⟩ := tups_grow (as := as) sh dd al nd new
  obtain ⟨hnb, hal, hso⟩ := hsrt
  have hlen : (itemsD (kvs.map (·.1)) xs).length = as.length := by
    have := dats.len
    rw [List.length_map] at this
    exact this.symm
  generalize hds : itemsD (kvs.map (·.1)) xs = ds at hnb hal hso dats hlen q
  have hob : (h'.push { cls := .type "list", data := .seq (as.map Value.ref).toArray }).get? h'.objs.size = some (seqObj "list" (as.map Value.ref).toArray 0) := Heap.get?_push_size _ rfl
  have rv : Vals (as.map V.ref) (as.map Value.ref) := LiI.vals_refs as
  have rd : PySem.W.EachIs (fun u (d : D) => ∃ bs, Reads h' u (py d) bs) (as.map Value.ref) ds :=
    dpAll_each I3 ds (as.map V.ref) (as.map Value.ref) hnb (fun i d v h1 h2 => by
      obtain ⟨y, hy, hz⟩ := dats.get h1
      rw [h2] at hy
      cases hy
      exact nb_dp 20 d v (hnb d (List.mem_of_getElem? h1)) (Dat.mono g.sh d v hz)) rv (by rw [List.length_map]; exact hlen)
  have e2 : PySem.W.EachIs (fun u (p : V × D) => RelV p.1 u ∧ ∃ bs, Reads h' u (py p.2) bs) (as.map Value.ref) ((as.map V.ref).zip ds) := by
    refine PySem.W.EachIs.of_zip (by simp; omega) fun p hp => ?_
    obtain ⟨i, hi⟩ := List.mem_iff_getElem?.mp hp
    rw [List.getElem?_zip_eq_some] at hi
    obtain ⟨h1, h2⟩ := hi
    rw [List.getElem?_zip_eq_some] at h2
    obtain ⟨u, hu, ru⟩ := rv.get h2.1
    rw [h1] at hu
    cases hu
    exact ⟨ru, rd.zip (p.1, p.2.2) (List.mem_iff_getElem?.mpr ⟨i, by rw [List.getElem?_zip_eq_some]; exact ⟨h1, h2.2⟩⟩)⟩
  have em : ((as.map V.ref).zip ds).map (fun p => py p.2) = ds.map py := by
    rw [show (fun p : V × D => py p.2) = py ∘ Prod.snd from rfl, ← List.map_map, List.map_snd_zip (by rw [List.length_map]; omega)]
  have hm : ∀ p ∈ (as.map V.ref).zip ds, nb 20 p.2 = true := fun p hp => hnb _ (List.of_mem_zip (a := p.1) (b := p.2) hp).2
  have hall : PySem.W.AllAlike (((as.map V.ref).zip ds).map fun p => py p.2) := by
    rw [em]
    intro x hx y hy
    obtain ⟨x, mx, rfl⟩ := List.mem_map.mp hx
    obtain ⟨y, my, rfl⟩ := List.mem_map.mp hy
    exact hal x mx y my
  have er : PySem.W.EachIs (fun u (p : V × D) => ∃ bs, Reads (h'.push { cls := .type "list", data := .seq (as.map Value.ref).toArray }) u (py p.2) bs ∧ h'.objs.size ∉ bs) (as.map Value.ref) ((as.map V.ref).zip ds) := by
    refine e2.mono fun u p hp => ?_
    obtain ⟨_, bs, r⟩ := hp
    refine ⟨bs, Reads.keeps (fun b o e => Heap.get?_push_of_some _ e) r, fun z => ?_⟩
    obtain ⟨o, e⟩ := PyProof.On.reads_mem_get r _ z
    exact Nat.lt_irrefl _ (Heap.lt_size e)
  refine PySem.W.list_sort_data (s := { s1 with heap := h'.push { cls := .type "list", data := .seq (as.map Value.ref).toArray }, toks := tk }) (bs := (as.map V.ref).zip ds) (enc := fun p => py p.2) (R := fun u (p : V × D) => RelV p.1 u) (vs := as.map Value.ref) hob (e2.mono fun _ _ z => z.1) er hall (by rw [em]; exact hso) (by simp; omega) (fun p hp => ?_) fun out ho h1 => ?_
  · have := py_depth (hm p hp)
    have := hr.units
    show X.A.units + 1 + 1 + _ < _
    omega
  · have hv := each_back h1 fun _ _ z => z
    have es' : PySem.W.dataLe false (fun p : V × D => py p.2) = fun a b => dle a.2 b.2 := rfl
    rw [es'] at hv
    obtain ⟨ep', he'⟩ := sortedHeap_at (out := List.toArray out) hob
    have hlen2 : ((((as.map V.ref).zip ds).mergeSort fun a b => dle a.2 b.2).map (·.1)).length ≤ sizeLine := by simp; omega
    have hfp : LiI.putT H1 as kvs h'.objs.size = none := I3.hok.fresh (Nat.le_refl _)
    have I4 := I3.laid (a := h'.objs.size) (o := .lst ((((as.map V.ref).zip ds).mergeSort fun a b => dle a.2 b.2).map (·.1))) (h' := sortedHeap (h'.push { cls := .type "list", data := .seq (as.map Value.ref).toArray }) h'.objs.size (as.map Value.ref) out.toArray) (t' := tk)
      (fun b u e => by
        rw [sortedHeap_old (Nat.ne_of_lt (Heap.lt_size e)) (by rw [Heap.size_push]; exact Nat.lt_succ_of_lt (Heap.lt_size e))]
        exact Heap.get?_push_of_some _ e) (Nat.le_refl _) ⟨hlen2, out, ep', hv, he'⟩
    refine ⟨.ref h'.objs.size, _, I4, rfl, ?_⟩
    refine q _ _ _ S' (g.lay hfp) (g.freeH hfp) (g.freeS hfp) upd_same ?_
    have hperm := List.mergeSort_perm ((as.map V.ref).zip ds) fun a b => dle a.2 b.2
    have e3 := zip_sort (as.map V.ref) ds (by rw [List.length_map]; exact hlen.symm)
    rw [← e3]
    refine dats_perm hperm ?_
    rw [List.map_snd_zip (by rw [List.length_map]; omega), List.map_fst_zip (by rw [List.length_map]; omega)]
    exact dats
def wSortI (wa : WE) : WL := fun x ρ Q => wa x ρ fun d => match d with
  | .dkz ks xs => ks.length ≤ sizeLine ∧ Srt1 (itemsD ks xs) ∧ Q (sorD (itemsD ks xs))
  | _ => False
theorem df_sortItems {k : Nat} (hc : X.calm = true) (hr : Room k X.A) (hg : Gl X "sorted") (hm : X.mg "sorted" = none) (ha : ED X E a wa) (hbase : attributeBase a "items" X.env (eval a X.env) = eval a X.env := by rfl) (hline : (apos.endLine == cpos.line) = true := by rfl)
    (hs : starEach [.Call (.Attribute a "items" apos) [] [] cpos] X.env = (false, eval (.Call (.Attribute a "items" apos) [] [] cpos) X.env) :: starEach [] X.env := by rfl) :
    DF X E (.Call (.Name "sorted" p) [.Call (.Attribute a "items" apos) [] [] cpos] [] pos) (wSortI wa) := by
  obtain ⟨t, pt, s⟩ := ha.ex
  refine ⟨_, pe_sortItems hc hr pt hg hm hbase hline hs, fun x ρ Q hw F σ H S Q' rp ex k => ?_⟩
  refine s x ρ _ hw F σ H S _ rp ex fun d v H1 S1 q1 g1 h1 => ?_
  cases d with
  | dkz ks xs =>
    unfold Dat at h1
    obtain ⟨a, od, kvs, rfl, r, z1, z2⟩ := h1
    subst z1
    obtain ⟨q1, q2, q3⟩ := q1
    exact ⟨a, od, kvs, S1, xs, rfl, g1.sh, g1.sh _ _ r, z2, by simpa using q1, q2, fun p ws H' S' g z0 z1 z2 z3 => k _ p ws H' S' q3 (g1.trans g) (g1.freeH z0) z1 z2 z3⟩
  | _ => exact q1.elim
/-! ### a def that changes the dict handed in last -/
abbrev SpecMD := List Key → List D → List D → (List Key → List D → Prop) → Prop
def spOfMD (sp : SpecMD) : Sp := fun vs H Q _ => ∃ p kvs rest ks xs ds S R, vs = rest ++ [.ref p] ∧ (Same S H ∧ LamX.Tabs KC.T H) ∧ S p = none ∧ H p = some (.dK kvs) ∧ kvs.map (·.1) = ks ∧ Dats S xs (kvs.map (·.2)) ∧ Dats S ds rest ∧ sp ks xs ds R ∧
  (∀ ks' xs' H' S' kvs', R ks' xs' → GrowM p H S H' S' → H' p = some (.dK kvs') → kvs'.map (·.1) = ks' → Dats S' xs' (kvs'.map (·.2)) → Q .non H')
def startMD (n : Nat) (ks : List Key) (xs ds : List D) : Ev := ds.map Sl.fz ++ (.own true (.dct ks xs) :: List.replicate (n - (ds.length + 1)) .un)
def endMD (i : Nat) (R : List Key → List D → Prop) (ρ : Ev) : Prop := match (ρ[i]? : Option Sl) with
  | some (.own true (.dct ks xs)) => R ks xs
  | _ => False
def endsMD (i : Nat) (R : List Key → List D → Prop) : DEnds where
  nx := endMD i R
  rt := fun _ _ => False
  ex := fun _ => False
theorem rep_startMD {H S : Hp} {N : List Str} {ks : List Key} {ds xs : List D} {vs : List V} {kvs : List (Key × V)} {p : Addr} (sh : Same S H) (tb : LamX.Tabs KC.T H) (hS : S p = none) (hH : H p = some (.dK kvs)) (hk : kvs.map (·.1) = ks) (hx : Dats S xs (kvs.map (·.2))) (h : Dats S ds vs) (hl : ds.length + 1 ≤ N.length) :
    Rep { H0 := H, S0 := S, M := fun a => a = p } (startMD N.length ks xs ds) (L2.start N (vs ++ [.ref p])) H S := by
  have hlen := h.len
  have st : L2.start N (vs ++ [.ref p]) = vs.map some ++ (some (.ref p) :: List.replicate (N.length - (vs.length + 1)) none) := by
    unfold L2.start
    simp [List.append_assoc]
  refine ⟨⟨fun _ _ _ e _ => e, fun _ e => e, .refl _, sh, fun _ _ => rfl, fun _ _ h => h, tb⟩, ?_, fun i sl e => ?_, fun i j m m' c c' ne e1 e2 => ?_⟩
  · rw [st]
    unfold startMD
    simp only [List.length_append, List.length_map, List.length_replicate, List.length_cons]
    omega
  · rw [st]
    unfold startMD at e
    rcases Nat.lt_trichotomy i ds.length with hi | hi | hi
    · rw [List.getElem?_append_left (by simpa using hi), List.getElem?_map] at e
      cases q : ds[i]? with
      | none => rw [q] at e; cases e
      | some d =>
        rw [q] at e
        cases e
        obtain ⟨v, hv, hz⟩ := h.get q
        refine ⟨v, ?_, hz⟩
        rw [List.getElem?_append_left (by rw [List.length_map, hlen]; exact hi), List.getElem?_map, hv]
        rfl
    · subst hi
      rw [List.getElem?_append_right (by simp)] at e
      simp only [List.length_map, Nat.sub_self, List.getElem?_cons_zero, Option.some.injEq] at e
      subst e
      refine ⟨p, _, ?_, hS, hH, ⟨kvs, rfl, hk, hx⟩, fun _ => rfl, fun z => by cases z⟩
      rw [List.getElem?_append_right (by rw [List.length_map]; omega), List.length_map, hlen, Nat.sub_self]
      rfl
    · rw [List.getElem?_append_right (by simp; omega)] at e
      obtain ⟨j, hj⟩ : ∃ j, i - (ds.map Sl.fz).length = j + 1 := ⟨i - ds.length - 1, by rw [List.length_map]; omega⟩
      rw [hj, List.getElem?_cons_succ, List.getElem?_replicate] at e
      split at e
      · cases e
        trivial
      · cases e
  · have only : ∀ (i : Nat) (m : Bool) (c : Cn), (startMD N.length ks xs ds)[i]? = some (.own m c) → i = ds.length := fun i m c e => by
      unfold startMD at e
      rcases Nat.lt_trichotomy i ds.length with hi | hi | hi
      · rw [List.getElem?_append_left (by simpa using hi), List.getElem?_map] at e
        cases q : ds[i]? with
        | none => rw [q] at e; cases e
        | some d => rw [q] at e; cases e
      · exact hi
      · rw [List.getElem?_append_right (by simp; omega)] at e
        obtain ⟨j, hj⟩ : ∃ j, i - (ds.map Sl.fz).length = j + 1 := ⟨i - ds.length - 1, by rw [List.length_map]; omega⟩
        rw [hj, List.getElem?_cons_succ, List.getElem?_replicate] at e
        split at e
        · cases e
        · cases e
    exact absurd ((only i m c e1).trans (only j m' c' e2).symm) ne
end
section
variable {P : Program} {w : World} {K : PySem.W.Frag} {mg : Str → Option Value} {base : Heap}
theorem fn_okMD {x qual : Str} {st : Stmt} {f : Addr} {fd : FuncData} {N ps : List Str} {k : Nat} {sp : SpecMD} (F : Fun K x qual st f fd) (S : FnScope N ps (defScope st)) (len : ∀ ks xs ds R, sp ks xs ds R → ds.length + 1 = ps.length)
    (hbody : ∀ (cdv : Value) (A : Around) (outer : List Env) (s : Shared) (H : Hp) (E : XK), Room k (A.deeper (envOfC qual (defScope st) s.heap.objs.size f cdv)) → XOk (cxF P w K mg base N qual (defScope st) f cdv A outer s H E) E →
      ∃ ws, SDs (cxF P w K mg base N qual (defScope st) f cdv A outer s H E) E (defBody st) ws ∧ ∀ ks xs ds R, sp ks xs ds R → ws (endsMD (ps.length - 1) R) (startMD N.length ks xs ds)) :
    FnOk P w K mg base (L2.CX P w) (k + 1) f fd ps (spOfMD sp) := by
  have hpl : ps.length ≤ N.length := by
    have := congrArg List.length S.pre
    rw [List.length_take] at this
    omega
  refine F.okX S (fun vs H Q E h => ?_) (fun cdv A outer s H vs Q E hr h => ?_)
  · obtain ⟨p, kvs, rest, ks, xs, ds, S0, R, rfl, _, _, _, _, _, hd, hs, _⟩ := h
    rw [List.length_append, hd.len]
    exact len ks xs ds R hs
  · obtain ⟨p, kvs, rest, ks, xs, ds, S0, R, rfl, ⟨sh, tb⟩, hS, hH, hk, hx, hd, hs, k1⟩ := h
    obtain ⟨ws, sd, pure⟩ := hbody cdv A outer s H E hr xk_fn
    obtain ⟨t, pt, so⟩ := sd.ex
    have hl : ds.length + 1 ≤ N.length := by rw [len ks xs ds R hs]; exact hpl
    have ei : ps.length - 1 = ds.length := by have := len ks xs ds R hs; omega
    refine ⟨t, pt, so _ _ (pure ks xs ds R hs) _ _ H S0 _ (rep_startMD sh tb hS hH hk hx hd hl) ⟨fun ρ σ H' S' q r => ?_, fun r ρ v σ H' S' q rp pp => q.elim, fun _ _ _ _ z => z.elim, fun _ _ _ _ z => z.elim, fun n C H' S' h1 h2 h3 => h1.elim⟩⟩
    simp only [endsMD, endMD] at q
    split at q
    · rename_i ks' xs' h0
      obtain ⟨p', o, e1, e2, e3, ⟨kvs', rfl, e4, e6⟩, e5, _⟩ := r.own h0
      have : p' = p := e5 rfl
      subst this
      exact k1 ks' xs' H' S' kvs' q ⟨fun a o n e nt => r.fg.hh a o n e nt, r.fg.al, r.fg.ft, r.fg.ss, r.fg.sh, r.fg.nw⟩ e3 e4 e6
    · exact q.elim
end
section
variable {X : Cx} {E : XK} {e a b o f : Expr} {es : List Expr} {pos p p1 mpos : Pos} {x y : Str} {w wa : WE} {wl : WL} {k : Nat} {g : Addr} {fd : FuncData} {ps : List Str} {sp : SpecMD}
/-- arguments, the last one a slot's own thing -/
structure AL (X : Cx) (E : XK) (es : List Expr) (i : Nat) (w : WL) : Prop where
  ex : ∃ t, PA X es t ∧ ∀ (x : XS) (ρ : Ev) (Q : List D → Prop), w x ρ Q → ∀ (F : Fr) (σ : L2.St) (H S : Hp) (q : Addr) (Q' : List V → Hp → Prop), Rep F ρ σ H S → ExOk X.mg E x H S → σ[i]? = some (some (.ref q)) →
    (∀ ds vs H' S', Q ds → Grow H S H' S' → Dats S' ds vs → Q' (vs ++ [.ref q]) H') → t σ H Q'
theorem al_last (i : Nat) (hN : X.N[i]? = some y := by rfl) (hv : Vis X.env.scope y := by first | exact Or.inl rfl | exact Or.inr (Or.inl rfl) | exact Or.inr (Or.inr rfl)) (hd : (y == ("__debug__" : Str)) = false := by decide) (hcd : (y == ("__classdict__" : Str)) = false := by decide)
    (hs : starEach (.Name y p1 :: []) X.env = (false, eval (.Name y p1) X.env) :: starEach [] X.env := by rfl) : AL X E [.Name y p1] i wNil := by
  refine ⟨_, pa_cons (pe_var hN hv hd hcd) pa_nil hs, fun x ρ Q hw F σ H S q Q' rp ex e k => ⟨.ref q, e, ?_⟩⟩
  exact k [] [] H S hw (.refl rp.sh) .nil
theorem al_cons {i : Nat} (ha : ED X E a wa) (hr : AL X E es i wl) (hs : starEach (a :: es) X.env = (false, eval a X.env) :: starEach es X.env := by rfl) : AL X E (a :: es) i (wCons wa wl) := by
  obtain ⟨t, p, s⟩ := ha.ex
  obtain ⟨t', p', s'⟩ := hr.ex
  refine ⟨_, pa_cons p p' hs, fun x ρ Q hw F σ H S q Q' rp ex e k => ?_⟩
  refine s x ρ _ hw F σ H S _ rp ex fun d u H1 S1 q1 g1 h1 => ?_
  refine s' x ρ _ q1 F σ H1 S1 q _ (rp.grow g1) (ex.grow g1) e fun ds vs H2 S2 q2 g2 h2 => ?_
  exact k (d :: ds) (u :: vs) H2 S2 q2 (g1.trans g2) (.cons (Dat.mono g2.ss _ _ h1) h2)
def AskMD (sp : SpecMD) (ks : List Key) (xs ds : List D) (K : List Key → List D → Prop) (_ : Tg K) : Prop := sp ks xs ds K
def wsCallMD (i : Nat) (sp : SpecMD) (wl : WL) : WS := fun q ρ => match ρ[i]? with
  | some (.own m (.dct ks xs)) => wl q.ex ρ fun ds => AskMD sp ks xs ds (fun ks' xs' => q.nx (ρ.set i (.own m (.dct ks' xs')))) ⟨⟩
  | _ => False
/-- f(.., d) as a statement, d a slot's own dict that f changes -/
theorem sd_callMD (i : Nat) (G : FnOk X.prog X.w X.K X.mg X.base (L2.CX X.prog X.w) k g fd ps (spOfMD sp)) (hr : Room k X.A) (xk : XOk X E) (hg : Gl X x) (hm : X.mg x = some (.ref g)) (hk : PySem.W.keepIn X.K (.ref g) = true) (hb : Binds X.K fd ps [])
    (ha : AL X E (e :: es) i wl) (hdb : (x == ("__debug__" : Str)) = false := by decide) (he : starEach (e :: es) X.env = (false, eval e X.env) :: starEach es X.env := by rfl) (hpl : (backTo mpos (starEach es X.env)).any (·.1) = false := by rfl)
    (hs : swapsWith (.Call (.Name x p) (e :: es) [] mpos) none pos.line X.env = pure false := by rfl) :
    SD X E (.Expr (.Call (.Name x p) (e :: es) [] mpos) pos) (wsCallMD i sp wl) := by
  obtain ⟨t, pt, s⟩ := ha.ex
  have px : Passes (L2.CX X.prog X.w) X E := xk.pass
  refine ⟨_, ps_expr (pe_call G hr hg hm hk hb .nil px pt hdb he hpl) hs, fun q ρ hw F σ H S D rp o => ?_⟩
  unfold wsCallMD at hw
  split at hw
  · rename_i m ks xs hi
    obtain ⟨l, u, e, h1, h2, ⟨kvs, rfl, h3, h4⟩, _⟩ := rp.own hi
    refine s q.ex ρ _ hw F σ H S l _ rp (o.exOk rp) e fun ds vs H1 S1 q1 g1 hd => ?_
    have rp1 := rp.grow g1
    refine ⟨l, kvs, vs, ks, xs, ds, S1, _, by rw [List.append_nil], ⟨g1.sh, rp1.fg.tb⟩, by rw [g1.nw l (by rw [h2]; intro z; cases z)]; exact h1, g1.hh.dK h2, h3, Dats.mono g1.ss _ _ h4, hd, q1, fun ks' xs' H2 S2 kvs' q2 g2 z1 z2 z3 => ?_⟩
    exact o.nx _ _ H2 S2 q2 (rp1.putM hi e g2 z1 ⟨kvs', rfl, z2, z3⟩)
  · exact hw.elim
end
end NL

/-! Lists of words with numbers: as dicts, sorted; all ways to merge two words. -/
namespace NL
open PySem PySem.Spec L2
open PyProof.Rows hiding St
def dW (s : List Nat) : D := .str (tx s)
abbrev Wm := List (List Nat × Int)
def dR (p : List Nat × Int) : D := dP (tx p.1, p.2)
def kM (m : Wm) : List Key := m.map fun p => .inr (tx p.1)
def xM (m : Wm) : List D := m.map fun p => .int p.2
def getO : Wm → List Nat → Option Int
  | [], _ => none
  | p :: m, w => if p.1 = w then some p.2 else getO m w
def getM (m : Wm) (w : List Nat) : Int := (getO m w).getD 0
def putM : Wm → List Nat → Int → Wm
  | [], w, v => [(w, v)]
  | p :: m, w, v => if p.1 = w then (w, v) :: m else p :: putM m w v
def keysM (m : Wm) : List (List Nat) := m.map (·.1)
theorem txK_ne {a b : List Nat} (h : a ≠ b) : (Sum.inr (tx a) : Key) ≠ .inr (tx b) := fun z => h (by
  have := Sum.inr.inj z
  exact tx_inj.mp this)
theorem lk_kM (w : List Nat) : ∀ m : Wm, lkK (kM m) (xM m) (.inr (tx w)) = (getO m w).map D.int
  | [] => rfl
  | p :: m => by
    have ih := lk_kM w m
    unfold lkK at ih ⊢
    show (List.find? _ ((Sum.inr (tx p.1), D.int p.2) :: (kM m).zip (xM m))).map _ = _
    unfold getO
    by_cases e : p.1 = w
    · rw [if_pos e, List.find?_cons_of_pos (by simp [e])]
      rfl
    · rw [if_neg e, List.find?_cons_of_neg (by simpa using txK_ne e)]
      exact ih
theorem get_kM (w : List Nat) (m : Wm) : (lkK (kM m) (xM m) (.inr (tx w))).getD (.int 0) = .int (getM m w) := by
  rw [lk_kM]
  unfold getM
  cases getO m w <;> rfl
theorem any_kM (w : List Nat) : ∀ m : Wm, ((kM m).any fun j => decide (j = .inr (tx w))) = true ↔ w ∈ keysM m
  | [] => by simp [kM, keysM]
  | p :: m => by
    have ih := any_kM w m
    show ((Sum.inr (tx p.1) :: kM m).any _) = true ↔ w ∈ p.1 :: keysM m
    rw [List.any_cons, Bool.or_eq_true, ih, List.mem_cons, decide_eq_true_eq]
    constructor
    · rintro (h | h)
      · exact .inl (tx_inj.mp (Sum.inr.inj h)).symm
      · exact .inr h
    · rintro (h | h)
      · exact .inl (by rw [h])
      · exact .inr h
theorem put_not {w : List Nat} {v : Int} : ∀ {m : Wm}, w ∉ keysM m → putM m w v = m ++ [(w, v)]
  | [], _ => rfl
  | p :: m, h => by
    have h' : ¬ p.1 = w ∧ w ∉ keysM m := by simpa [keysM, eq_comm] using h
    unfold putM
    rw [if_neg h'.1, put_not h'.2]
    rfl
theorem put_rep {w : List Nat} {v : Int} : ∀ {m : Wm}, (keysM m).Nodup → w ∈ keysM m → putM m w v = m.map fun p => if p.1 = w then (p.1, v) else p
  | [], _, h => by simp [keysM] at h
  | p :: m, nd, h => by
    have nd' : p.1 ∉ keysM m ∧ (keysM m).Nodup := List.nodup_cons.mp nd
    unfold putM
    by_cases e : p.1 = w
    · rw [if_pos e, List.map_cons, if_pos e, e]
      congr 1
      refine (List.map_id _).symm.trans (List.map_congr_left fun q hq => ?_)
      rw [if_neg (fun z => nd'.1 (by rw [e, ← z]; exact List.mem_map.mpr ⟨q, hq, rfl⟩))]
      rfl
    · rw [if_neg e, List.map_cons, if_neg e]
      congr 1
      refine put_rep nd'.2 ?_
      rcases List.mem_cons.mp (show w ∈ p.1 :: keysM m from h) with z | z
      · exact absurd z.symm e
      · exact z
theorem put_kM {m : Wm} (nd : (keysM m).Nodup) (w : List Nat) (v : Int) : putKs (kM m) (.inr (tx w)) = kM (putM m w v) ∧ putXs (kM m) (xM m) (.inr (tx w)) (.int v) = xM (putM m w v) := by
  unfold putKs putXs
  by_cases h : w ∈ keysM m
  · have c := (any_kM w m).mpr h
    rw [if_pos c, if_pos c, put_rep nd h]
    constructor
    · unfold kM
      rw [List.map_map]
      refine List.map_congr_left fun p _ => ?_
      show _ = Sum.inr (tx (if p.1 = w then (p.1, v) else p).1)
      split <;> rfl
    · unfold kM xM
      rw [List.zip_map', List.map_map, List.map_map]
      refine List.map_congr_left fun p _ => ?_
      show (if (Sum.inr (tx p.1) : Key) = .inr (tx w) then D.int v else D.int p.2) = D.int (if p.1 = w then (p.1, v) else p).2
      by_cases e : p.1 = w
      · rw [if_pos (by rw [e]), if_pos e]
      · rw [if_neg (txK_ne e), if_neg e]
  · have c : ¬ ((kM m).any fun j => decide (j = .inr (tx w))) = true := fun z => h ((any_kM w m).mp z)
    rw [if_neg c, if_neg c, put_not h]
    simp [kM, xM]
theorem getO_put {u w : List Nat} {v : Int} : ∀ {m : Wm}, getO (putM m w v) u = if u = w then some v else getO m u
  | [] => by
    unfold putM getO getO
    by_cases e : u = w
    · rw [if_pos e, if_pos e.symm]
    · rw [if_neg e, if_neg (Ne.symm e)]
  | p :: m => by
    have ih := getO_put (u := u) (w := w) (v := v) (m := m)
    unfold putM
    by_cases e : p.1 = w
    · rw [if_pos e]
      unfold getO
      by_cases f : u = w
      · rw [if_pos f, if_pos f.symm]
      · rw [if_neg f, if_neg (Ne.symm f), if_neg (fun z => f (z.symm.trans e))]
    · rw [if_neg e]
      unfold getO
      rw [ih]
      by_cases f : p.1 = u
      · rw [if_pos f, if_pos f, if_neg (fun z => e (f.trans z))]
      · rw [if_neg f, if_neg f]
theorem getM_put {u w : List Nat} {v : Int} {m : Wm} : getM (putM m w v) u = if u = w then v else getM m u := by
  unfold getM
  rw [getO_put]
  split <;> rfl
theorem mem_put {u w : List Nat} {v : Int} : ∀ {m : Wm}, u ∈ keysM (putM m w v) ↔ u = w ∨ u ∈ keysM m
  | [] => by simp [putM, keysM]
  | p :: m => by
    have ih := mem_put (u := u) (w := w) (v := v) (m := m)
    unfold putM
    by_cases e : p.1 = w
    · rw [if_pos e]
      simp only [keysM, List.map_cons, List.mem_cons, e]
      constructor
      · rintro (h | h)
        · exact .inl h
        · exact .inr (.inr h)
      · rintro (h | h | h)
        · exact .inl h
        · exact .inl h
        · exact .inr h
    · rw [if_neg e]
      simp only [keysM, List.map_cons, List.mem_cons] at ih ⊢
      rw [ih]
      constructor
      · rintro (h | h | h)
        · exact .inr (.inl h)
        · exact .inl h
        · exact .inr (.inr h)
      · rintro (h | h | h)
        · exact .inr (.inl h)
        · exact .inl h
        · exact .inr (.inr h)
theorem nodup_put {w : List Nat} {v : Int} : ∀ {m : Wm}, (keysM m).Nodup → (keysM (putM m w v)).Nodup
  | [], _ => by simp [putM, keysM]
  | p :: m, nd => by
    have nd' : p.1 ∉ keysM m ∧ (keysM m).Nodup := List.nodup_cons.mp nd
    unfold putM
    by_cases e : p.1 = w
    · rw [if_pos e]
      show (w :: keysM m).Nodup
      rw [← e]
      exact nd
    · rw [if_neg e]
      refine List.nodup_cons.mpr ⟨fun z => ?_, nodup_put nd'.2⟩
      rcases mem_put.mp z with q | q
      · exact e q
      · exact nd'.1 q
theorem getO_mem {w : List Nat} {v : Int} : ∀ {m : Wm}, (keysM m).Nodup → (getO m w = some v ↔ (w, v) ∈ m)
  | [], _ => by simp [getO]
  | p :: m, nd => by
    have nd' : p.1 ∉ keysM m ∧ (keysM m).Nodup := List.nodup_cons.mp nd
    have ih := getO_mem (w := w) (v := v) nd'.2
    unfold getO
    by_cases e : p.1 = w
    · rw [if_pos e]
      constructor
      · intro h
        have : p = (w, v) := Prod.ext e (Option.some.inj h)
        rw [this]
        exact List.mem_cons_self ..
      · intro h
        rcases List.mem_cons.mp h with z | z
        · rw [← z]
        · exact absurd (List.mem_map.mpr ⟨_, z, rfl⟩) (by rw [e] at nd'; exact nd'.1)
    · rw [if_neg e, ih]
      constructor
      · exact List.mem_cons_of_mem _
      · intro h
        rcases List.mem_cons.mp h with z | z
        · exact absurd (by rw [← z]) e
        · exact z
theorem getO_none {w : List Nat} : ∀ {m : Wm}, w ∉ keysM m → getO m w = none
  | [], _ => rfl
  | p :: m, h => by
    have h' : ¬ p.1 = w ∧ w ∉ keysM m := by simpa [keysM, eq_comm] using h
    unfold getO
    rw [if_neg h'.1, getO_none h'.2]
theorem getM_none {w : List Nat} {m : Wm} (h : w ∉ keysM m) : getM m w = 0 := by
  unfold getM
  rw [getO_none h]
  rfl
theorem getM_mem {w : List Nat} {v : Int} {m : Wm} (nd : (keysM m).Nodup) (h : (w, v) ∈ m) : getM m w = v := by
  unfold getM
  rw [(getO_mem nd).mpr h]
  rfl
theorem items_kM (m : Wm) : itemsD (kM m) (xM m) = m.map dR := by
  unfold itemsD kM xM
  rw [List.zip_map', List.map_map]
  rfl
theorem kM_len (m : Wm) : (kM m).length = m.length := by simp [kM]
theorem xM_len (m : Wm) : (xM m).length = m.length := by simp [xM]
/-! ### sorted -/
def leP (a b : Pc) : Bool := !PySem.W.DatumOrd.lt (α := Str × Int) b a
def pR (p : List Nat × Int) : Pc := (tx p.1, p.2)
theorem py_dP (p : Pc) : py (dP p) = PySem.W.Datum.toD (α := Str × Int) p := rfl
theorem dle_dP (a b : Pc) : dle (dP a) (dP b) = leP a b := by
  unfold dle dlt leP
  rw [py_dP, py_dP, PySem.W.DatumOrd.lt_eq]
theorem leP_trans (a b c : Pc) (h : leP a b = true) (g : leP b c = true) : leP a c = true := by
  unfold leP at h g ⊢
  rw [Bool.not_eq_true'] at h g ⊢
  cases e : PySem.W.DatumOrd.lt (α := Str × Int) c a with
  | false => rfl
  | true =>
    rcases Bool.eq_false_or_eq_true (PySem.W.DatumOrd.lt (α := Str × Int) c b) with q | q
    · rw [q] at g; cases g
    · rcases Bool.eq_false_or_eq_true (PySem.W.DatumOrd.lt (α := Str × Int) b c) with z | z
      · rw [ord_trans z e] at h; cases h
      · rw [ord_tri q z] at e; rw [e] at h; cases h
theorem leP_total (a b : Pc) : (leP a b || leP b a) = true := by
  unfold leP
  cases e : PySem.W.DatumOrd.lt (α := Str × Int) b a with
  | false => rfl
  | true =>
    cases f : PySem.W.DatumOrd.lt (α := Str × Int) a b with
    | false => rfl
    | true => have := ord_trans e f; rw [ord_irr] at this; cases this
theorem leP_anti {a b : Pc} (h : leP a b = true) (g : leP b a = true) : a = b := by
  unfold leP at h g
  rw [Bool.not_eq_true'] at h g
  exact ord_tri g h
theorem sort_perm {m m' : List Pc} (h : m.Perm m') : m.mergeSort leP = m'.mergeSort leP :=
  ((List.mergeSort_perm m leP).trans (h.trans (List.mergeSort_perm m' leP).symm)).eq_of_pairwise (le := fun a b => leP a b = true) (fun a b _ _ h g => leP_anti h g)
    (List.pairwise_mergeSort leP_trans leP_total m) (List.pairwise_mergeSort leP_trans leP_total m')
theorem srt_dP {m : List Pc} (h : ∀ p ∈ m, PyData.strOk p.1 = true) : Srt1 (m.map dP) := by
  refine ⟨fun d hd => ?_, fun d hd e he => ?_, ?_⟩
  · obtain ⟨p, hp, rfl⟩ := List.mem_map.mp hd
    simp [dP, nb, h p hp]
  · obtain ⟨a, _, rfl⟩ := List.mem_map.mp hd
    obtain ⟨b, _, rfl⟩ := List.mem_map.mp he
    unfold lik
    rw [py_dP, py_dP]
    exact PySem.W.DatumOrd.alike (α := Str × Int) _ _
  · rw [List.map_map]
    exact PySem.W.Sortable.tuples fun p => ⟨_, _, py_dP p⟩
theorem sor_dP (m : List Pc) : sorD (m.map dP) = (m.mergeSort leP).map dP := by
  unfold sorD
  rw [← PySem.W.sort_maps (r := leP) (s := dle) dP fun a _ b _ => (dle_dP a b).symm]
/-- the pairs in order -/
def srtW (m : Wm) : Wm := m.mergeSort fun a b => leP (pR a) (pR b)
theorem dR_map (m : Wm) : m.map dR = (m.map pR).map dP := by
  rw [List.map_map]
  rfl
theorem srt_dR {m : Wm} (h : ∀ p ∈ m, Lt p.1) : Srt1 (m.map dR) := by
  rw [dR_map]
  refine srt_dP fun p hp => ?_
  obtain ⟨q, hq, rfl⟩ := List.mem_map.mp hp
  exact tx_ok (h q hq)
theorem sor_dR (m : Wm) : sorD (m.map dR) = (srtW m).map dR := by
  rw [dR_map, sor_dP, dR_map]
  congr 1
  unfold srtW
  rw [← PySem.W.sort_maps (r := fun a b => leP (pR a) (pR b)) (s := leP) pR fun a _ b _ => rfl]
theorem srtW_is (m : Wm) : (srtW m).Perm m := List.mergeSort_perm m _
theorem pR_inj {a b : List Nat × Int} (h : pR a = pR b) : a = b := by
  obtain ⟨h1, h2⟩ := Prod.mk.inj (show (tx a.1, a.2) = (tx b.1, b.2) from h)
  exact Prod.ext (tx_inj.mp h1) h2
theorem srtW_perm {m m' : Wm} (h : m.Perm m') : srtW m = srtW m' :=
  ((List.mergeSort_perm m _).trans (h.trans (List.mergeSort_perm m' _).symm)).eq_of_pairwise (le := fun a b => leP (pR a) (pR b) = true) (fun a b _ _ h g => pR_inj (leP_anti h g))
    (List.pairwise_mergeSort (le := fun a b => leP (pR a) (pR b)) (fun a b c h g => leP_trans _ _ _ h g) (fun a b => leP_total _ _) m) (List.pairwise_mergeSort (le := fun a b => leP (pR a) (pR b)) (fun a b c h g => leP_trans _ _ _ h g) (fun a b => leP_total _ _) m')
/-! ### all ways to merge -/
def ways : List Nat → List Nat → List (List Nat)
  | [], v => [v]
  | x :: u, [] => [x :: u]
  | x :: u, y :: v => (ways u (y :: v)).map (x :: ·) ++ (ways (x :: u) v).map (y :: ·) ++ if x = y then (ways u v).map (x :: ·) else []
termination_by u v => u.length + v.length
theorem ways_nil (u : List Nat) : ways u [] = [u] := by
  cases u <;> simp [ways]
theorem ways_left (v : List Nat) : ways [] v = [v] := by simp [ways]
theorem ways_cons (x y : Nat) (u v : List Nat) : ways (x :: u) (y :: v) = (ways u (y :: v)).map (x :: ·) ++ (ways (x :: u) v).map (y :: ·) ++ if x = y then (ways u v).map (x :: ·) else [] := by
  rw [ways]
def sumW (B : List Nat → Int) (L : List (List Nat)) : Int := (L.map B).sum
theorem sumW_nil (B : List Nat → Int) : sumW B [] = 0 := rfl
theorem sumW_cons (B : List Nat → Int) (w : List Nat) (L : List (List Nat)) : sumW B (w :: L) = B w + sumW B L := by simp [sumW]
theorem sumW_app (B : List Nat → Int) (L M : List (List Nat)) : sumW B (L ++ M) = sumW B L + sumW B M := by simp [sumW]
theorem sumW_bump (n : Str) (A : List Nat → Int) (x : Nat) : ∀ L : List (List Nat), sumW (bump n A) (L.map (x :: ·)) = sumW A (L.map (x :: ·)) + if tx [x] = n then sumW A L else 0
  | [] => by simp [sumW]
  | w :: L => by
    have ih := sumW_bump n A x L
    have e : bump n A (x :: w) = A (x :: w) + if tx [x] = n then A w else 0 := rfl
    simp only [List.map_cons, sumW_cons, ih, e]
    split <;> omega
/-- what rows stand for: the times of two rows, taken by one another, are those of all that they merge to -/
def Inf (B : List Nat → Int) : Prop := B [] = 1 ∧ ∀ u v, sumW B (ways u v) = B u * B v
theorem inf_one0 : Inf one0 := by
  refine ⟨rfl, fun u v => ?_⟩
  have key : ∀ (L : List (List Nat)) (x : Nat), sumW one0 (L.map (x :: ·)) = 0 := fun L x => by
    induction L with
    | nil => rfl
    | cons w L ih => rw [List.map_cons, sumW_cons, ih]; rfl
  cases u with
  | nil => rw [ways_left, sumW_cons, sumW_nil]; show one0 v + 0 = 1 * one0 v; omega
  | cons x u =>
    cases v with
    | nil => rw [ways_nil, sumW_cons, sumW_nil]; rfl
    | cons y v =>
      rw [ways_cons, sumW_app, sumW_app, key, key]
      show 0 + 0 + _ = (0 : Int) * 0
      split
      · rw [key]; rfl
      · rfl
theorem sum_if {c : Prop} [Decidable c] (B : List Nat → Int) (L : List (List Nat)) : sumW B (if c then L else []) = if c then sumW B L else 0 := by
  split <;> rfl
theorem inf_bump {n : Str} {A : List Nat → Int} : Inf A ↔ Inf (bump n A) := by
  have h1 : bump n A [] = A [] := rfl
  have e1 : ∀ x u, bump n A (x :: u) = A (x :: u) + if tx [x] = n then A u else 0 := fun _ _ => rfl
  have step : ∀ x u y v, sumW (bump n A) (ways (x :: u) (y :: v)) = sumW A (ways (x :: u) (y :: v)) + (if tx [x] = n then sumW A (ways u (y :: v)) else 0) + (if tx [y] = n then sumW A (ways (x :: u) v) else 0) + if x = y then (if tx [x] = n then sumW A (ways u v) else 0) else 0 := fun x u y v => by
    rw [ways_cons, sumW_app, sumW_app, sumW_app, sumW_app, sumW_bump, sumW_bump, sum_if, sum_if, sumW_bump]
    by_cases e : x = y
    · simp only [if_pos e]; omega
    · simp only [if_neg e]; omega
  have xy : ∀ {x y : Nat}, tx [x] = n → tx [y] = n → x = y := fun {x y} h g => by
    have := tx_inj.mp (h.trans g.symm)
    simpa using this
  constructor
  · rintro ⟨a1, a2⟩
    refine ⟨a1, fun u v => ?_⟩
    cases u with
    | nil => rw [ways_left, sumW_cons, sumW_nil, h1, a1]; omega
    | cons x u =>
      cases v with
      | nil => rw [ways_nil, sumW_cons, sumW_nil, h1, a1]; omega
      | cons y v =>
        rw [step, a2, a2, a2, a2, e1, e1]
        by_cases hx : tx [x] = n
        · by_cases hy : tx [y] = n
          · have := xy hx hy
            simp only [if_pos hx, if_pos hy, if_pos this]; grind
          · have : x ≠ y := fun z => hy (by rw [← z]; exact hx)
            simp only [if_pos hx, if_neg hy, if_neg this]; grind
        · by_cases hy : tx [y] = n
          · have : x ≠ y := fun z => hx (by rw [z]; exact hy)
            simp only [if_neg hx, if_pos hy, if_neg this]; grind
          · simp only [if_neg hx, if_neg hy]; simp
  · rintro ⟨a1, a2⟩
    rw [h1] at a1
    refine ⟨a1, ?_⟩
    have main : ∀ (k : Nat) (u v : List Nat), u.length + v.length ≤ k → sumW A (ways u v) = A u * A v := by
      intro k
      induction k with
      | zero =>
        intro u v hk
        have : u = [] := List.eq_nil_of_length_eq_zero (by omega)
        rw [this, ways_left, sumW_cons, sumW_nil, a1]
        omega
      | succ k ih =>
        intro u v hk
        cases u with
        | nil => rw [ways_left, sumW_cons, sumW_nil, a1]; omega
        | cons x u =>
          cases v with
          | nil => rw [ways_nil, sumW_cons, sumW_nil, a1]; omega
          | cons y v =>
            simp only [List.length_cons] at hk
            have h := a2 (x :: u) (y :: v)
            rw [step, e1, e1, ih u (y :: v) (by simp; omega), ih (x :: u) v (by simp; omega), ih u v (by omega)] at h
            by_cases hx : tx [x] = n
            · by_cases hy : tx [y] = n
              · have := xy hx hy
                simp only [if_pos hx, if_pos hy, if_pos this] at h; grind
              · have : x ≠ y := fun z => hy (by rw [← z]; exact hx)
                simp only [if_pos hx, if_neg hy, if_neg this] at h; grind
            · by_cases hy : tx [y] = n
              · have : x ≠ y := fun z => hx (by rw [z]; exact hy)
                simp only [if_neg hx, if_pos hy, if_neg this] at h; grind
              · simp only [if_neg hx, if_neg hy, Int.add_zero] at h
                by_cases e : x = y
                · simp only [if_pos e, Int.add_zero] at h; omega
                · simp only [if_neg e, Int.add_zero] at h; omega
    exact fun u v => main _ u v (Nat.le_refl _)
theorem inf_stp (p : Pc) {A : List Nat → Int} (h : Inf A) : Inf (stp p A) := by
  refine up_down (p := fun a => Inf (stp (p.1, a) A)) ?_ (fun a => ?_) p.2
  · show Inf (stp (p.1, 0) A)
    rw [stp_zero]
    exact h
  · rw [stp_succ]
    exact inf_bump
theorem inf_wy : ∀ c : List Pc, Inf (wy c)
  | [] => inf_one0
  | p :: c => inf_stp p (inf_wy c)
theorem wy_ways (c : List Pc) (u v : List Nat) : sumW (wy c) (ways u v) = wy c u * wy c v := (inf_wy c).2 u v
theorem ways_comm : ∀ (k : Nat) (u v : List Nat), u.length + v.length ≤ k → (ways u v).Perm (ways v u)
  | 0, u, v, h => by
    have h1 : u = [] := List.eq_nil_of_length_eq_zero (by omega)
    have h2 : v = [] := List.eq_nil_of_length_eq_zero (by omega)
    rw [h1, h2]
  | k + 1, [], v, h => by rw [ways_left, ways_nil]
  | k + 1, x :: u, [], h => by rw [ways_left, ways_nil]
  | k + 1, x :: u, y :: v, h => by
    simp only [List.length_cons] at h
    rw [ways_cons, ways_cons]
    have i1 := ways_comm k u (y :: v) (by simp; omega)
    have i2 := ways_comm k (x :: u) v (by simp; omega)
    have i3 := ways_comm k u v (by omega)
    refine (((i1.map (x :: ·)).append (i2.map (y :: ·))).trans List.perm_append_comm).append ?_
    by_cases e : x = y
    · rw [if_pos e, if_pos e.symm, e]
      exact i3.map _
    · rw [if_neg e, if_neg (Ne.symm e)]
theorem ways_lt : ∀ (k : Nat) (u v : List Nat), u.length + v.length ≤ k → Lt u → Lt v → ∀ w ∈ ways u v, Lt w ∧ w.length ≤ u.length + v.length
  | 0, u, v, h, hu, hv, w, hw => by
    have h1 : u = [] := List.eq_nil_of_length_eq_zero (by omega)
    rw [h1, ways_left, List.mem_singleton] at hw
    rw [hw]
    exact ⟨hv, by omega⟩
  | k + 1, [], v, h, hu, hv, w, hw => by
    rw [ways_left, List.mem_singleton] at hw
    rw [hw]
    exact ⟨hv, by omega⟩
  | k + 1, x :: u, [], h, hu, hv, w, hw => by
    rw [ways_nil, List.mem_singleton] at hw
    rw [hw]
    exact ⟨hu, by omega⟩
  | k + 1, x :: u, y :: v, h, hu, hv, w, hw => by
    simp only [List.length_cons] at h
    have hu' : Lt u := fun c hc => hu c (List.mem_cons_of_mem _ hc)
    have hv' : Lt v := fun c hc => hv c (List.mem_cons_of_mem _ hc)
    have hx := hu x (List.mem_cons_self ..)
    have hy := hv y (List.mem_cons_self ..)
    have cons : ∀ {z : Nat} {t : List Nat}, 97 ≤ z ∧ z ≤ 122 → Lt t → Lt (z :: t) := fun hz ht c hc => by
      rcases List.mem_cons.mp hc with rfl | hc
      · exact hz
      · exact ht c hc
    rw [ways_cons] at hw
    rcases List.mem_append.mp hw with hw | hw
    · rcases List.mem_append.mp hw with hw | hw
      · obtain ⟨t, ht, rfl⟩ := List.mem_map.mp hw
        obtain ⟨a, b⟩ := ways_lt k u (y :: v) (by simp; omega) hu' hv t ht
        exact ⟨cons hx a, by simp only [List.length_cons] at b ⊢; omega⟩
      · obtain ⟨t, ht, rfl⟩ := List.mem_map.mp hw
        obtain ⟨a, b⟩ := ways_lt k (x :: u) v (by simp; omega) hu hv' t ht
        exact ⟨cons hy a, by simp only [List.length_cons] at b ⊢; omega⟩
    · split at hw
      · obtain ⟨t, ht, rfl⟩ := List.mem_map.mp hw
        obtain ⟨a, b⟩ := ways_lt k u v (by omega) hu' hv' t ht
        exact ⟨cons hx a, by simp only [List.length_cons]; omega⟩
      · cases hw
theorem ways_len : ∀ (k : Nat) (u v : List Nat), u.length + v.length ≤ k → (ways u v).length ≤ 3 ^ k
  | 0, u, v, h => by
    have h1 : u = [] := List.eq_nil_of_length_eq_zero (by omega)
    rw [h1, ways_left]
    simp
  | k + 1, [], v, h => by rw [ways_left]; exact Nat.one_le_iff_ne_zero.mpr (by simp)
  | k + 1, x :: u, [], h => by rw [ways_nil]; exact Nat.one_le_iff_ne_zero.mpr (by simp)
  | k + 1, x :: u, y :: v, h => by
    simp only [List.length_cons] at h
    have i1 := ways_len k u (y :: v) (by simp; omega)
    have i2 := ways_len k (x :: u) v (by simp; omega)
    have i3 := ways_len k u v (by omega)
    rw [ways_cons, List.length_append, List.length_append, List.length_map, List.length_map, Nat.pow_succ]
    split
    · rw [List.length_map]; omega
    · simp only [List.length_nil]; omega
/-- the words of L, each with how often it stands there -/
structure CntOf (m : Wm) (L : List (List Nat)) : Prop where
  nd : (keysM m).Nodup
  ks : ∀ w, w ∈ keysM m ↔ w ∈ L
  get : ∀ w, getM m w = (L.count w : Int)
theorem CntOf.nil : CntOf [] [] := ⟨List.nodup_nil, fun w => Iff.rfl, fun w => rfl⟩
theorem CntOf.mem {m : Wm} {L : List (List Nat)} (h : CntOf m L) (p : List Nat × Int) : p ∈ m ↔ p.1 ∈ L ∧ p.2 = (L.count p.1 : Int) := by
  constructor
  · intro hp
    refine ⟨(h.ks _).mp (List.mem_map.mpr ⟨p, hp, rfl⟩), ?_⟩
    rw [← h.get p.1, getM_mem h.nd (v := p.2) hp]
  · rintro ⟨h1, h2⟩
    obtain ⟨q, hq, e⟩ := List.mem_map.mp ((h.ks p.1).mpr h1)
    have : q = p := Prod.ext e (by rw [h2, ← h.get p.1, ← e, getM_mem h.nd (v := q.2) hq])
    rw [← this]
    exact hq
theorem CntOf.perm {m m' : Wm} {L L' : List (List Nat)} (h : CntOf m L) (g : CntOf m' L') (p : L.Perm L') : m.Perm m' := by
  have ndm : ∀ {m : Wm}, (keysM m).Nodup → m.Nodup := fun {m} h => (List.Pairwise.of_map (·.1) (fun a b hab z => hab (by rw [z])) h)
  rw [List.perm_ext_iff_of_nodup (ndm h.nd) (ndm g.nd)]
  intro q
  rw [h.mem, g.mem, p.mem_iff, p.count_eq]
theorem CntOf.add {m : Wm} {L : List (List Nat)} (h : CntOf m L) (w : List Nat) : CntOf (putM m w (getM m w + 1)) (L ++ [w]) := by
  refine ⟨nodup_put h.nd, fun u => ?_, fun u => ?_⟩
  · rw [mem_put, h.ks, List.mem_append, List.mem_singleton]
    exact Or.comm
  · rw [getM_put, List.count_append, h.get, h.get]
    by_cases e : u = w
    · rw [if_pos e, e]; simp
    · rw [if_neg e, List.count_singleton, if_neg (by simpa using Ne.symm e)]; simp
theorem CntOf.sub {m : Wm} {L : List (List Nat)} (h : CntOf m L) : m.length ≤ L.length := by
  have := List.Nodup.length_le_of_subset h.nd fun w hw => (h.ks w).mp hw
  rwa [keysM, List.length_map] at this
/-- the sum over the words of a list, by the words with their numbers -/
theorem sum_put (B : List Nat → Int) (w : List Nat) (v : Int) : ∀ {m : Wm}, (keysM m).Nodup → ((putM m w v).map fun p => p.2 * B p.1).sum = (m.map fun p => p.2 * B p.1).sum + (v - getM m w) * B w
  | [], _ => by simp [putM, getM, getO]
  | p :: m, nd => by
    have nd' : p.1 ∉ keysM m ∧ (keysM m).Nodup := List.nodup_cons.mp nd
    have ih := sum_put B w v nd'.2
    unfold putM getM getO
    by_cases e : p.1 = w
    · rw [if_pos e, if_pos e]
      simp only [List.map_cons, List.sum_cons, Option.getD_some, e]
      grind
    · rw [if_neg e, if_neg e]
      simp only [List.map_cons, List.sum_cons, ih]
      unfold getM
      grind
theorem perm_sum {l l' : List Int} (h : l.Perm l') : l.sum = l'.sum := by
  induction h with
  | nil => rfl
  | cons x _ ih => simp [ih]
  | swap x y l => simp; omega
  | trans _ _ h1 h2 => exact h1.trans h2
theorem cnt_grow (B : List Nat → Int) : ∀ (L L0 : List (List Nat)) (m0 : Wm), CntOf m0 L0 → ∃ m1, CntOf m1 (L0 ++ L) ∧ (m1.map fun p => p.2 * B p.1).sum = (m0.map fun p => p.2 * B p.1).sum + sumW B L
  | [], L0, m0, h => ⟨m0, by simpa using h, by simp [sumW]⟩
  | w :: L, L0, m0, h => by
    obtain ⟨m1, h1, h2⟩ := cnt_grow B L (L0 ++ [w]) _ (h.add w)
    refine ⟨m1, by simpa using h1, ?_⟩
    rw [h2, sum_put B w _ h.nd, sumW_cons]
    grind
theorem cnt_sum (B : List Nat → Int) {m : Wm} {L : List (List Nat)} (h : CntOf m L) : (m.map fun p => p.2 * B p.1).sum = sumW B L := by
  obtain ⟨m1, h1, h2⟩ := cnt_grow B L [] [] CntOf.nil
  rw [perm_sum ((h.perm h1 (by simp)).map _), h2]
  simp
theorem cnt_map0 (x : Nat) (L : List (List Nat)) : (L.map (x :: ·)).count [] = 0 := List.count_eq_zero.mpr (by simp)
theorem cnt_map (x : Nat) (L : List (List Nat)) (y : Nat) (w : List Nat) : (L.map (x :: ·)).count (y :: w) = if y = x then L.count w else 0 := by
  by_cases e : y = x
  · subst e
    rw [if_pos rfl]
    induction L with
    | nil => rfl
    | cons v L ih =>
      rw [List.map_cons, List.count_cons, List.count_cons, ih]
      congr 1
      by_cases f : v = w
      · subst f; simp
      · rw [if_neg (by simpa using f), if_neg (by simpa using f)]
  · rw [if_neg e]
    refine List.count_eq_zero.mpr fun h => ?_
    obtain ⟨v, _, hv⟩ := List.mem_map.mp h
    exact e (List.cons.inj hv).1.symm
/-- what is still to come ahead of x, at u -/
def atX (x : Nat) (r : Wm) : List Nat → Int
  | [] => 0
  | y :: w => if y = x then getM r w else 0
theorem atX_c {x y : Nat} {r : Wm} {w : List Nat} : atX x r (y :: w) = if y = x then getM r w else 0 := rfl
theorem getM_c {w v : List Nat} {n : Int} {r : Wm} : getM ((w, n) :: r) v = if w = v then n else getM r v := by
  have e : getO ((w, n) :: r) v = if w = v then some n else getO r v := rfl
  unfold getM
  rw [e]
  split <;> rfl
theorem atX_nil (x : Nat) : ∀ u, atX x [] u = 0
  | [] => rfl
  | y :: w => by
    rw [atX_c]
    split
    · rfl
    · rfl
theorem atX_cons {x : Nat} {w : List Nat} {n : Int} {r : Wm} (h : w ∉ keysM r) : ∀ u, atX x ((w, n) :: r) u = atX x r u + if u = x :: w then n else 0
  | [] => by simp [atX]
  | y :: v => by
    rw [atX_c, atX_c, getM_c]
    by_cases e : y = x
    · subst e
      simp only [if_true, List.cons.injEq, true_and]
      by_cases f : v = w
      · subst f
        rw [if_pos rfl, if_pos rfl, getM_none h]
        omega
      · rw [if_neg (Ne.symm f), if_neg f]
        omega
    · rw [if_neg e, if_neg e, if_neg (fun z => e (List.cons.inj z).1)]
      omega
/-- behind part of the rows put ahead -/
structure Ahd (x : Nat) (L : List (List Nat)) (r m : Wm) : Prop where
  nd : (keysM m).Nodup
  nr : (keysM r).Nodup
  ks : ∀ u, (u ∈ keysM m ∨ ∃ w ∈ keysM r, u = x :: w) ↔ u ∈ L
  get : ∀ u, getM m u + atX x r u = (L.count u : Int)
theorem Ahd.start {x : Nat} {m m1 : Wm} {L L1 : List (List Nat)} (h : CntOf m L) (g : CntOf m1 L1) : Ahd x (L ++ L1.map (x :: ·)) m1 m := by
  refine ⟨h.nd, g.nd, fun u => ?_, fun u => ?_⟩
  · rw [List.mem_append, h.ks, List.mem_map]
    constructor
    · rintro (z | ⟨w, hw, rfl⟩)
      · exact .inl z
      · exact .inr ⟨w, (g.ks w).mp hw, rfl⟩
    · rintro (z | ⟨w, hw, rfl⟩)
      · exact .inl z
      · exact .inr ⟨w, (g.ks w).mpr hw, rfl⟩
  · rw [List.count_append, h.get]
    cases u with
    | nil =>
      rw [cnt_map0]
      show _ + 0 = _
      omega
    | cons y w =>
      rw [cnt_map, atX_c]
      by_cases e : y = x
      · rw [if_pos e, if_pos e, g.get]; omega
      · rw [if_neg e, if_neg e]; omega
theorem Ahd.step {x : Nat} {L : List (List Nat)} {r m : Wm} {w : List Nat} {n : Int} (h : Ahd x L ((w, n) :: r) m) : Ahd x L r (putM m (x :: w) (getM m (x :: w) + n)) := by
  have nr' : w ∉ keysM r ∧ (keysM r).Nodup := List.nodup_cons.mp h.nr
  refine ⟨nodup_put h.nd, nr'.2, fun u => ?_, fun u => ?_⟩
  · rw [mem_put, ← h.ks]
    constructor
    · rintro ((rfl | z) | ⟨v, hv, rfl⟩)
      · exact .inr ⟨w, List.mem_cons_self .., rfl⟩
      · exact .inl z
      · exact .inr ⟨v, List.mem_cons_of_mem _ hv, rfl⟩
    · rintro (z | ⟨v, hv, rfl⟩)
      · exact .inl (.inr z)
      · rcases List.mem_cons.mp hv with rfl | hv
        · exact .inl (.inl rfl)
        · exact .inr ⟨v, hv, rfl⟩
  · have e := h.get u
    rw [atX_cons nr'.1] at e
    rw [getM_put]
    by_cases f : u = x :: w
    · subst f
      rw [if_pos rfl] at e ⊢
      omega
    · rw [if_neg f] at e ⊢
      omega
theorem Ahd.done {x : Nat} {L : List (List Nat)} {m : Wm} (h : Ahd x L [] m) : CntOf m L := by
  refine ⟨h.nd, fun u => ?_, fun u => ?_⟩
  · rw [← h.ks]
    constructor
    · exact .inl
    · rintro (z | ⟨w, hw, _⟩)
      · exact z
      · cases hw
  · rw [← h.get, atX_nil]
    omega
theorem Ahd.len {x : Nat} {L : List (List Nat)} {r m : Wm} (h : Ahd x L r m) : m.length ≤ L.length := by
  have := List.Nodup.length_le_of_subset h.nd fun u hu => (h.ks u).mp (.inl hu)
  rwa [keysM, List.length_map] at this
end NL

/-! All rows that stand in a cord, piece by piece. -/
namespace NL
open PySem PySem.Spec L2
open PyProof.Rows hiding St
section
variable {X : Cx}
variable [KC]
def gGtS : D → D → (D → Prop) → Prop
  | .str i, .str j, Q => Q (.bl (decide (j.cps.toList < i.cps.toList)))
  | _, _, _ => False
theorem dGtS : OpD X (compareOp .Gt) gGtS := by
  refine ⟨_, op_gt_str, fun d e Q h H S u v Q' sh hd he k => ?_⟩
  unfold gGtS at h
  split at h
  · exact ⟨_, _, hd.s, he.s, k _ _ H S h (.refl sh) .b⟩
  · exact h.elim
end
/-! ### one row alone -/
def ind (u : List Nat) (v : Int) : List Nat → Int := fun r => if r = u then v else 0
theorem xx_lin {n : Str} {A B : List Nat → Int} {f : Nat → Int} : ∀ (r : List Nat) (m : Nat), xx n (fun r => A r + B r) f m r = xx n A f m r + xx n B f m r
  | [], m => by simp only [xx]; grind
  | x :: r, m => by
    simp only [xx, xx_lin r (m + 1)]
    split <;> grind
theorem xx_congr {n : Str} {A B : List Nat → Int} {f : Nat → Int} : ∀ (r : List Nat) (m : Nat), (∀ s : List Nat, s.length ≤ r.length → A s = B s) → xx n A f m r = xx n B f m r
  | [], m, h => by simp only [xx, h [] (Nat.le_refl _)]
  | x :: r, m, h => by
    simp only [xx, h (x :: r) (Nat.le_refl _), xx_congr r (m + 1) fun s hs => h s (by simp; omega)]
theorem xx_short {n : Str} {u : List Nat} {v : Int} {f : Nat → Int} : ∀ (r : List Nat) (m : Nat), r.length < u.length → xx n (ind u v) f m r = 0
  | [], m, h => by
    have : ¬ [] = u := fun z => by rw [← z] at h; simp at h
    simp only [xx, ind, if_neg this, Int.zero_mul]
  | x :: r, m, h => by
    have : ¬ (x :: r) = u := fun z => by rw [← z] at h; simp at h
    simp only [List.length_cons] at h
    simp only [xx, ind, if_neg this, Int.zero_mul, Int.zero_add]
    split
    · exact xx_short r (m + 1) (by omega)
    · rfl
theorem xx_at {x : Nat} {u : List Nat} {v : Int} {f : Nat → Int} : ∀ (j m : Nat), xx (tx [x]) (ind u v) f m (List.replicate j x ++ u) = v * f (m + j)
  | 0, m => by
    rw [List.replicate_zero, List.nil_append]
    cases u with
    | nil => simp only [xx, ind, if_true, Nat.add_zero]
    | cons y u =>
      simp only [xx, Nat.add_zero]
      have e : (if tx [y] = tx [x] then xx (tx [x]) (ind (y :: u) v) f (m + 1) u else 0) = 0 := by
        split
        · exact xx_short u (m + 1) (by simp)
        · rfl
      rw [e]
      show (if y :: u = y :: u then v else 0) * f m + 0 = v * f m
      rw [if_pos rfl, Int.add_zero]
  | j + 1, m => by
    have ih := xx_at (x := x) (u := u) (v := v) (f := f) j (m + 1)
    have ne : ¬ x :: (List.replicate j x ++ u) = u := fun z => by have := congrArg List.length z; simp at this; omega
    show ind u v (x :: (List.replicate j x ++ u)) * f m + (if tx [x] = tx [x] then xx (tx [x]) (ind u v) f (m + 1) (List.replicate j x ++ u) else 0) = _
    rw [if_pos rfl, ih]
    unfold ind
    rw [if_neg ne, Int.zero_mul, Int.zero_add, show m + 1 + j = m + (j + 1) by omega]
theorem xx_no {x : Nat} {u : List Nat} {v : Int} {f : Nat → Int} : ∀ (r : List Nat) (m : Nat), (∀ j, r ≠ List.replicate j x ++ u) → xx (tx [x]) (ind u v) f m r = 0
  | [], m, h => by
    have : ¬ [] = u := fun z => h 0 (by simpa using z)
    simp only [xx, ind, if_neg this, Int.zero_mul]
  | y :: r, m, h => by
    have : ¬ (y :: r) = u := fun z => h 0 (by simpa using z)
    simp only [xx, ind, if_neg this, Int.zero_mul, Int.zero_add]
    split
    · rename_i e
      have e : y = x := by simpa using tx_inj.mp e
      refine xx_no r (m + 1) fun j z => h (j + 1) ?_
      rw [List.replicate_succ, List.cons_append, ← z, e]
    · rfl
/-- what one row brings, the first k ways -/
def acc (x : Nat) (v : List Nat) (n t : Int) : Nat → List Nat → Int
  | 0, _ => 0
  | k + 1, w => acc x v n t k w + if w = v ++ List.replicate (k + 1) x then n * ch t (k + 1) else 0
theorem rep_ne {x : Nat} {v : List Nat} {i j : Nat} (h : i ≠ j) : v ++ List.replicate i x ≠ v ++ List.replicate j x := fun z => h (by have := congrArg List.length z; simpa using this)
theorem acc_at {x : Nat} {v : List Nat} {n t : Int} {j : Nat} : ∀ k : Nat, acc x v n t k (v ++ List.replicate j x) = if 1 ≤ j ∧ j ≤ k then n * ch t j else 0
  | 0 => by rw [if_neg (by omega)]; rfl
  | k + 1 => by
    show acc x v n t k _ + _ = _
    rw [acc_at k]
    by_cases e : j = k + 1
    · subst e
      rw [if_neg (by omega), if_pos rfl, if_pos (by omega), Int.zero_add]
    · rw [if_neg (rep_ne e), Int.add_zero]
      by_cases f : 1 ≤ j ∧ j ≤ k
      · rw [if_pos f, if_pos (by omega)]
      · rw [if_neg f, if_neg (by omega)]
theorem acc_no {x : Nat} {v w : List Nat} {n t : Int} (h : ∀ j, w ≠ v ++ List.replicate j x) : ∀ k : Nat, acc x v n t k w = 0
  | 0 => rfl
  | k + 1 => by
    show acc x v n t k w + _ = _
    rw [acc_no h k, if_neg (h _), Int.add_zero]
theorem rev_rep (x : Nat) (v : List Nat) (j : Nat) : (v ++ List.replicate j x).reverse = List.replicate j x ++ v.reverse := by simp
theorem acc_eq {x : Nat} {v w : List Nat} {n t : Int} {K : Nat} (hw : w.length ≤ K) : acc x v n t (K - v.length) w = stp (tx [x], t) (ind v.reverse n) w.reverse - ind v.reverse n w.reverse := by
  by_cases h : ∃ j, w = v ++ List.replicate j x
  · obtain ⟨j, rfl⟩ := h
    rw [rev_rep, acc_at]
    unfold stp
    rw [xx_at, Nat.zero_add]
    rw [List.length_append, List.length_replicate] at hw
    unfold ind
    by_cases e : j = 0
    · subst e
      rw [if_neg (by omega)]
      simp [ch_zero]
    · rw [if_pos (by omega), if_neg (fun z => by have := congrArg List.length z; simp at this; exact e this), Int.sub_zero]
  · have h' : ∀ j, w ≠ v ++ List.replicate j x := fun j z => h ⟨j, z⟩
    rw [acc_no h']
    unfold stp
    rw [xx_no w.reverse 0 fun j z => h' j (by
      have := congrArg List.reverse z
      simpa using this)]
    unfold ind
    rw [if_neg (fun z => h' 0 (by simpa using z))]
    rfl
/-- the times of rows, turned round, as a list tells them -/
def asA (m : Wm) : List Nat → Int := fun r => getM m r.reverse
theorem asA_cons {v : List Nat} {n : Int} {r : Wm} (h : v ∉ keysM r) : asA ((v, n) :: r) = fun u => ind v.reverse n u + asA r u := by
  funext u
  unfold asA ind
  rw [getM_c]
  by_cases e : v = u.reverse
  · rw [if_pos e, if_pos (by rw [e, List.reverse_reverse]), ← e, getM_none h, Int.add_zero]
  · rw [if_neg e, if_neg (fun z => e (by rw [z, List.reverse_reverse])), Int.zero_add]
theorem asA_nil : asA [] = fun _ => 0 := rfl
theorem stp_nil {p : Pc} : ∀ r, stp p (fun _ => 0) r = 0 := fun r => by
  have key : ∀ (r : List Nat) (m : Nat), xx p.1 (fun _ => 0) (ch p.2) m r = 0 := fun r => by
    induction r with
    | nil => intro m; simp [xx]
    | cons x r ih => intro m; simp [xx, ih]
  exact key r 0
/-- behind part of the rows: f is told, of m the rows r are left -/
structure Lng (x : Nat) (t : Int) (K : Nat) (m r f : Wm) : Prop where
  nf : (keysM f).Nodup
  nr : (keysM r).Nodup
  ks : ∀ w ∈ keysM f, w.length ≤ K ∧ ∃ v k, v ∈ keysM m ∧ w = v ++ List.replicate k x
  get : ∀ w, w.length ≤ K → getM f w + (stp (tx [x], t) (asA r) w.reverse - asA r w.reverse) = stp (tx [x], t) (asA m) w.reverse
theorem Lng.start {x : Nat} {t : Int} {K : Nat} {m : Wm} (h : (keysM m).Nodup) (hk : ∀ w ∈ keysM m, w.length ≤ K) : Lng x t K m m m :=
  ⟨h, h, fun w hw => ⟨hk w hw, w, 0, hw, by simp⟩, fun w _ => by
    have : asA m w.reverse = getM m w := by unfold asA; rw [List.reverse_reverse]
    rw [this]
    omega⟩
theorem Lng.done {x : Nat} {t : Int} {K : Nat} {m f : Wm} (h : Lng x t K m [] f) {w : List Nat} (hw : w.length ≤ K) : getM f w = stp (tx [x], t) (asA m) w.reverse := by
  have := h.get w hw
  rw [asA_nil, stp_nil] at this
  simpa using this
/-- within the ways of one row: k of them are done -/
structure Lni (x : Nat) (t : Int) (K : Nat) (m r : Wm) (v : List Nat) (n : Int) (k : Nat) (f : Wm) : Prop where
  nf : (keysM f).Nodup
  nr : (keysM ((v, n) :: r)).Nodup
  ks : ∀ w ∈ keysM f, w.length ≤ K ∧ ∃ v k, v ∈ keysM m ∧ w = v ++ List.replicate k x
  get : ∀ w, w.length ≤ K → getM f w - acc x v n t k w + (stp (tx [x], t) (asA ((v, n) :: r)) w.reverse - asA ((v, n) :: r) w.reverse) = stp (tx [x], t) (asA m) w.reverse
theorem Lng.begin {x : Nat} {t : Int} {K : Nat} {m r f : Wm} {v : List Nat} {n : Int} (h : Lng x t K m ((v, n) :: r) f) : Lni x t K m r v n 0 f :=
  ⟨h.nf, h.nr, h.ks, fun w hw => by
    have := h.get w hw
    show getM f w - 0 + _ = _
    omega⟩
theorem Lni.step {x : Nat} {t : Int} {K : Nat} {m r f : Wm} {v : List Nat} {n : Int} {k : Nat} (h : Lni x t K m r v n k f) (hv : v ∈ keysM m) (hk : v.length + (k + 1) ≤ K) :
    Lni x t K m r v n (k + 1) (putM f (v ++ List.replicate (k + 1) x) (getM f (v ++ List.replicate (k + 1) x) + n * ch t (k + 1))) := by
  refine ⟨nodup_put h.nf, h.nr, fun w hw => ?_, fun w hw => ?_⟩
  · rcases mem_put.mp hw with z | z
    · rw [z]
      exact ⟨by simp; omega, v, k + 1, hv, rfl⟩
    · exact h.ks w z
  · have := h.get w hw
    show getM _ w - (acc x v n t k w + _) + _ = _
    rw [getM_put]
    by_cases e : w = v ++ List.replicate (k + 1) x
    · rw [if_pos e, if_pos e, ← e]
      omega
    · rw [if_neg e, if_neg e]
      omega
theorem Lni.done {x : Nat} {t : Int} {K : Nat} {m r f : Wm} {v : List Nat} {n : Int} (h : Lni x t K m r v n (K - v.length) f) : Lng x t K m r f := by
  have nr' : v ∉ keysM r ∧ (keysM r).Nodup := List.nodup_cons.mp h.nr
  refine ⟨h.nf, nr'.2, h.ks, fun w hw => ?_⟩
  have := h.get w hw
  rw [acc_eq hw, asA_cons nr'.1] at this
  have e : stp (tx [x], t) (fun u => ind v.reverse n u + asA r u) w.reverse = stp (tx [x], t) (ind v.reverse n) w.reverse + stp (tx [x], t) (asA r) w.reverse := xx_lin _ _
  rw [e] at this
  simp only at this
  omega
/-! ### how many words there are -/
def allW : Nat → List (List Nat)
  | 0 => [[]]
  | k + 1 => [] :: ((List.range 26).map (97 + ·)).flatMap fun c => (allW k).map (c :: ·)
theorem allW_len (k : Nat) : (allW (k + 1)).length = 1 + 26 * (allW k).length := by
  have key : ∀ (l : List Nat) (L : List (List Nat)), (l.flatMap fun c => L.map (c :: ·)).length = l.length * L.length := fun l L => by
    induction l with
    | nil => simp
    | cons c l ih => rw [List.flatMap_cons, List.length_append, ih, List.length_map, List.length_cons, Nat.succ_mul]; omega
  generalize hL : allW k = L
  have e : allW (k + 1) = [] :: ((List.range 26).map (97 + ·)).flatMap fun c => L.map (c :: ·) := by rw [← hL]; rfl
  rw [e, List.length_cons, key, List.length_map, List.length_range]
  omega
theorem allW5 {n : Nat} (hn : n = 5) : (allW n).length = 12356631 := by
  have h0 : ∀ {k : Nat}, k = 0 → (allW k).length = 1 := fun h => by rw [h]; rfl
  have st : ∀ {k l a : Nat}, k = l + 1 → (allW l).length = a → (allW k).length = 1 + 26 * a := fun h g => by rw [h, allW_len, g]
  have := st (k := n) (l := n - 1) (by omega) (st (l := n - 2) (by omega) (st (l := n - 3) (by omega) (st (l := n - 4) (by omega) (st (l := n - 5) (by omega) (h0 (by omega))))))
  omega
theorem mem_allW : ∀ (k : Nat) (w : List Nat), w.length ≤ k → Lt w → w ∈ allW k
  | 0, w, h, _ => by
    have : w = [] := List.eq_nil_of_length_eq_zero (by omega)
    rw [this]
    exact List.mem_singleton.mpr rfl
  | k + 1, [], _, _ => List.mem_cons_self ..
  | k + 1, c :: w, h, hw => by
    simp only [List.length_cons] at h
    obtain ⟨h1, h2⟩ := hw c (List.mem_cons_self ..)
    refine List.mem_cons_of_mem _ (List.mem_flatMap.mpr ⟨c, List.mem_map.mpr ⟨c - 97, List.mem_range.mpr (by omega), by omega⟩, List.mem_map.mpr ⟨w, mem_allW k w (by omega) fun d hd => hw d (List.mem_cons_of_mem _ hd), rfl⟩⟩)
theorem few_keys {m : Wm} {K : Nat} (hK : K ≤ 5) (nd : (keysM m).Nodup) (h : ∀ w ∈ keysM m, w.length ≤ K ∧ Lt w) : m.length ≤ 12356631 := by
  obtain ⟨n, hn⟩ : ∃ n : Nat, n = 5 := ⟨5, rfl⟩
  have := List.Nodup.length_le_of_subset nd fun w hw => mem_allW n w (by have := (h w hw).1; omega) (h w hw).2
  rw [allW5 hn, keysM, List.length_map] at this
  exact this
/-! ### rows whose times are not 0 -/
theorem xx_some {n : Str} {A : List Nat → Int} {f : Nat → Int} : ∀ (r : List Nat) (m : Nat), xx n A f m r ≠ 0 → ∃ (k : Nat) (s : List Nat) (y : Nat), r = List.replicate k y ++ s ∧ (k = 0 ∨ tx [y] = n) ∧ A s ≠ 0
  | [], m, h => by
    refine ⟨0, [], 0, rfl, .inl rfl, fun z => h ?_⟩
    simp only [xx, z, Int.zero_mul]
  | x :: r, m, h => by
    by_cases e : A (x :: r) = 0
    · simp only [xx, e, Int.zero_mul, Int.zero_add] at h
      split at h
      · rename_i q
        obtain ⟨k, s, y, h1, h2, h3⟩ := xx_some r (m + 1) h
        rcases h2 with rfl | h2
        · refine ⟨1, s, x, ?_, .inr q, h3⟩
          rw [h1]
          rfl
        · have : x = y := by simpa using tx_inj.mp (q.trans h2.symm)
          subst this
          refine ⟨k + 1, s, x, ?_, .inr q, h3⟩
          rw [h1]
          rfl
      · exact absurd rfl h
    · exact ⟨0, x :: r, 0, rfl, .inl rfl, e⟩
/-- a row that stands in a cord is of its nails -/
theorem wy_lets : ∀ {c : List Pc} {w : List Nat}, wy c w ≠ 0 → ∀ y ∈ w, ∃ p ∈ c, p.1 = tx [y]
  | [], w, h, y, hy => by
    cases w with
    | nil => cases hy
    | cons x w => exact absurd rfl h
  | p :: c, w, h, y, hy => by
    obtain ⟨k, s, z, h1, h2, h3⟩ := xx_some w 0 (show xx p.1 (wy c) (ch p.2) 0 w ≠ 0 from h)
    rw [h1] at hy
    rcases List.mem_append.mp hy with q | q
    · have := List.eq_of_mem_replicate q
      subst this
      rcases h2 with rfl | h2
      · cases q
      · exact ⟨p, List.mem_cons_self .., h2.symm⟩
    · obtain ⟨p', a, b⟩ := wy_lets h3 y q
      exact ⟨p', List.mem_cons_of_mem _ a, b⟩
/-- the rows of a length that stand in a cord, with their times -/
structure RowsOf (c : List Pc) (K : Nat) (m : Wm) : Prop where
  nd : m.Nodup
  is : ∀ p : List Nat × Int, p ∈ m ↔ p.1.length = K ∧ p.2 = wy c p.1 ∧ p.2 ≠ 0
theorem RowsOf.perm {c : List Pc} {K : Nat} {m m' : Wm} (h : RowsOf c K m) (g : RowsOf c K m') : m.Perm m' := by
  rw [List.perm_ext_iff_of_nodup h.nd g.nd]
  intro q
  rw [h.is, g.is]
theorem RowsOf.lt {c : List Pc} {K : Nat} {m : Wm} (h : RowsOf c K m) (nl : Nl c) : ∀ p ∈ m, Lt p.1 := fun p hp y hy => by
  obtain ⟨_, h2, h3⟩ := (h.is p).mp hp
  obtain ⟨q, hq, e⟩ := wy_lets (c := c) (w := p.1) (by rw [← h2]; exact h3) y hy
  obtain ⟨z, e1, z1, z2⟩ := nl q hq
  have : z = y := by simpa using tx_inj.mp (e1.symm.trans e)
  rw [← this]
  exact ⟨z1, z2⟩
/-! ### all words of some letters -/
def wordsN (l : List Nat) : Nat → List (List Nat)
  | 0 => [[]]
  | k + 1 => (wordsN l k).flatMap fun w => l.map fun c => w ++ [c]
theorem wordsN_len (l : List Nat) : ∀ k, (wordsN l k).length = l.length ^ k
  | 0 => rfl
  | k + 1 => by
    have key : ∀ (L : List (List Nat)), (L.flatMap fun w => l.map fun c => w ++ [c]).length = L.length * l.length := fun L => by
      induction L with
      | nil => simp
      | cons c L ih => rw [List.flatMap_cons, List.length_append, ih, List.length_map, List.length_cons, Nat.succ_mul]; omega
    show (List.flatMap _ _).length = _
    rw [key, wordsN_len l k, Nat.pow_succ]
theorem mem_wordsN {l : List Nat} : ∀ (k : Nat) (w : List Nat), w ∈ wordsN l k ↔ w.length = k ∧ ∀ y ∈ w, y ∈ l
  | 0, w => by
    show w ∈ [[]] ↔ _
    rw [List.mem_singleton]
    constructor
    · rintro rfl
      exact ⟨rfl, fun _ h => by cases h⟩
    · rintro ⟨h, _⟩
      exact List.eq_nil_of_length_eq_zero h
  | k + 1, w => by
    show w ∈ List.flatMap _ _ ↔ _
    rw [List.mem_flatMap]
    constructor
    · rintro ⟨v, hv, h⟩
      obtain ⟨c, hc, rfl⟩ := List.mem_map.mp h
      obtain ⟨h1, h2⟩ := (mem_wordsN k v).mp hv
      refine ⟨by simp [h1], fun y hy => ?_⟩
      rcases List.mem_append.mp hy with z | z
      · exact h2 y z
      · rw [List.mem_singleton] at z
        rw [z]
        exact hc
    · rintro ⟨h1, h2⟩
      have hne : w ≠ [] := fun z => by rw [z] at h1; cases h1
      refine ⟨w.dropLast, (mem_wordsN k _).mpr ⟨by simp [h1], fun y hy => h2 y (List.dropLast_subset w hy)⟩, List.mem_map.mpr ⟨w.getLast hne, h2 _ (List.getLast_mem hne), List.dropLast_concat_getLast hne⟩⟩
theorem wordsN_nodup {l : List Nat} (h : l.Nodup) : ∀ k, (wordsN l k).Nodup
  | 0 => by simp [wordsN]
  | k + 1 => by
    have ih := wordsN_nodup h k
    show (List.flatMap _ _).Nodup
    generalize wordsN l k = L at ih
    induction L with
    | nil => simp
    | cons w L ih2 =>
      rw [List.nodup_cons] at ih
      rw [List.flatMap_cons, List.nodup_append]
      refine ⟨?_, ih2 ih.2, fun a ha b hb => ?_⟩
      · exact List.Pairwise.map _ (fun a b hab z => hab (by simpa using z)) h
      · obtain ⟨c, _, rfl⟩ := List.mem_map.mp ha
        obtain ⟨v, hv, hb⟩ := List.mem_flatMap.mp hb
        obtain ⟨d, _, rfl⟩ := List.mem_map.mp hb
        intro z
        have := List.append_inj_left' z rfl
        exact ih.1 (by rw [this]; exact hv)
end NL

namespace NL
open PySem PySem.Spec L2
open PyProof.Rows hiding St
local macro_rules | `(tactic| walk_at "s") => `(tactic| try simp only [wVar, wOwn, wC, wOp, onBl, wtOn, wChain, trD, wtVal, wtNot, wAnd, wOr, wAndV, wOrV, wNotV, wIf, wNil, wCons, wTup, wLst, wUn, wNew, gAdd, gInt, gInt0, gMul, gCatF, gRepF, wOpF, gEq, gCmp, gInS, gIsN, isN, gIsB, gIdx, woNone, woSome, gSl, wSl, gSlF, wSlF, wB, wBF, gLen, gInt1, gInt2, gToInt, gListF, tyName, gIsT, wIsT, wCall, Rt.d, Cn.d, onNew, wCallF, wCallN, wCallNF, nlR, wgName, wgNil, wgCons, wgTup, wSeq, wSeqT, wSigns, wRng1, wRng2, wRng3, wRev, wEnum, wZip, wLc, wtYes, wsNil, wsBrk, wsCnt, wsExpr, wsRet, wsRetF, wsRetOwn, wsRetN, wIfS, wsSet, wsSetF, wsAsg, wsPar, wsAug, gApp, gExt, gPop0, gRev, wMut, wsSetIx, wFor, wsRaise, wSeqS, wFrz, wsCallM, wsPopAdd, endsOf, endM, endsM, startM, startE, wipeE, smallI, CPow, Br_true, Br_false, Br_not, rngD_eq, dC, dP, dI, ex_atI_map, atI0, atI1, atI2, kit1, kit2, kit3, kit4, kit5, kit6, kit7, kit8, kit9, kit10, kit11, kit12, kit13, kit14, kit15, kit16, kit17, kit18, kit19, kit20, kit21, kit22, kit23, kit24, kit25, kit26, kit27, kit28, kit29, kit30, kit31, kit32, kit33, kit34, kit35, sizeLine_eq, true_and, and_true, exists_eq_left', Option.some.injEq, List.map_cons, List.map_nil, List.length_cons, List.length_nil, List.length_map, List.length_append, List.cons_append, List.nil_append, List.set_cons_zero, List.set_cons_succ, List.getElem?_cons_zero, List.getElem?_cons_succ, List.getElem?_nil, Nat.reduceSub, Nat.reduceAdd, Nat.zero_add, Nat.sub_self, List.replicate_succ, List.replicate_zero, Bool.false_bne, Bool.true_bne, Bool.false_xor, Bool.true_xor, Bool.not_true, Bool.not_false, Bool.not_not, beq_self_eq_true, Bool.and_true, Bool.true_and, nl, nls, decide_true, decide_false, exists_eq_left, Bool.false_eq_true, Option.some_inj, Int.reduceToNat, Int.reducePow, Int.reduceMul, Int.reduceSub, Int.reduceAdd, Int.reduceNeg, Nat.reducePow, Nat.reduceLeDiff, Int.reduceLE, Int.reduceLT, Int.reduceAbs, Int.natAbs_neg, Nat.reduceLT, divW_eq, mulW_eq, Bool.or_true, Bool.true_or, cut_map, ← List.map_append, ← List.map_reverse, castN, eq_self, Int.reduceEq, deqC, deq_self, rep_map, nls_dP, wsAugIx, tx_cps, tx_len, tx_app, tx_one, tx_nil, tx_cut, tx_signs, tx_rep, lit_empty, tx_inj, wJoin, gJoin, wmCall, wmOpL, wmOpR, wmIxR, wmTup2, wsSetM, wsAppM, wForM, gSum, gAny, gAll, gLtD, gInT, gSorted, gAddT, wThaw, gMaxL, wIsE, wIsV, wCallE, wTry, DEnds.off, gInB, wDct0, wCntB, wIdxB, wTryF, wIdxS, gInX, gIns, gTup, wDct1, gEqR, wsSetG, wgd0, wgdC, wLck, wDctL, wGetD, dctOf, wsSetKey, wItems, wSortI, wsCallMD, endsMD, endMD, startMD, gGtS, wsSetV])
/-- a tame cord -/
def Tame (c : List Pc) : Prop := Gds (10 ^ 30) c ∧ (8 ≤ c.length → Gds 1000 c)
theorem Tame.tb {c : List Pc} (h : Tame c) : Tb c := .of h.1 (by decide)
def SP_law_tame : Spec := fun ds _ R => ∃ c : List Pc, ds = [dC c] ∧ c.length ≤ 1000 ∧ Gds (10 ^ 30) c ∧ ∀ d : List Pc, d.length = c.length → Tame d → R (.val (dC d))
theorem len_law_tame (ds : List D) (x : XS) (R : Rt → Prop) (h : SP_law_tame ds x R) : ds.length = ["_law_cord_here"].length := by
  obtain ⟨t, rfl, _⟩ := h; rfl
def W_law_tame : WS :=
  (wSeqS (wIfS (wtOn (wOp (gCmp fun i j => decide (i < j)) (wB gLen (wCons (wVar 0) wNil)) (wC (.int 8))))
  (wsRet (wVar 0))
  wsNil)
  (wSeqS (wsSetF 1 (wLst wNil))
  (wSeqS (wFor (wSeq (wVar 0)) (wgTup 2 (wgCons (wgName 2) (wgCons (wgName 3) wgNil)))
  (wIfS (wtOn (wOp (gCmp fun i j => decide (i < j)) (wVar 3) (wC (.int 0))))
  (wMut 1 gApp (wCons (wTup (wCons (wVar 2) (wCons (wOp (gInt0 fun i j => i - j) (wC (.int 0)) (wOp (gInt (fun _ j => 0 < j) fun i j => i % j) (wOp (gInt0 fun i j => i - j) (wC (.int 0)) (wVar 3)) (wC (.int 1000)))) wNil))) wNil))
  (wMut 1 gApp (wCons (wTup (wCons (wVar 2) (wCons (wOp (gInt (fun _ j => 0 < j) fun i j => i % j) (wVar 3) (wC (.int 1000))) wNil))) wNil))))
  (wFrz 1 (wsRet (wVar 1))))))
theorem pure_law_tame (ds : List D) (x : XS) (R : Rt → Prop) (h : SP_law_tame ds x R) : W_law_tame (endsOf R x) (startE 4 ds) := by
  obtain ⟨c, rfl, hl, hg, q⟩ := h
  simp only [W_law_tame, wVar, wOwn, wC, wOp, onBl, wtOn, wChain, trD, wtVal, wtNot, wAnd, wOr, wAndV, wOrV, wNotV, wIf, wNil, wCons, wTup, wLst, wUn, wNew, gAdd, gInt, gInt0, gMul, gCatF, gRepF, wOpF, gEq, gCmp, gInS, gIsN, isN, gIsB, gIdx, woNone, woSome, gSl, wSl, gSlF, wSlF, wB, wBF, gLen, gInt1, gInt2, gToInt, gListF, tyName, gIsT, wIsT, wCall, Rt.d, Cn.d, onNew, wCallF, wCallN, wCallNF, nlR, wgName, wgNil, wgCons, wgTup, wSeq, wSeqT, wSigns, wRng1, wRng2, wRng3, wRev, wEnum, wZip, wLc, wtYes, wsNil, wsBrk, wsCnt, wsExpr, wsRet, wsRetF, wsRetOwn, wsRetN, wIfS, wsSet, wsSetF, wsAsg, wsPar, wsAug, gApp, gExt, gPop0, gRev, wMut, wsSetIx, wFor, wsRaise, wSeqS, wFrz, wsCallM, wsPopAdd, endsOf, endM, endsM, startM, startE, wipeE, smallI, CPow, Br_true, Br_false, Br_not, rngD_eq, dC, dP, dI, ex_atI_map, atI0, atI1, atI2, kit1, kit2, kit3, kit4, kit5, kit6, kit7, kit8, kit9, kit10, kit11, kit12, kit13, kit14, kit15, kit16, kit17, kit18, kit19, kit20, kit21, kit22, kit23, kit24, kit25, kit26, kit27, kit28, kit29, kit30, kit31, kit32, kit33, kit34, kit35, sizeLine_eq, true_and, and_true, exists_eq_left', Option.some.injEq, List.map_cons, List.map_nil, List.length_cons, List.length_nil, List.length_map, List.length_append, List.cons_append, List.nil_append, List.set_cons_zero, List.set_cons_succ, List.getElem?_cons_zero, List.getElem?_cons_succ, List.getElem?_nil, Nat.reduceSub, Nat.reduceAdd, Nat.zero_add, Nat.sub_self, List.replicate_succ, List.replicate_zero, Bool.false_bne, Bool.true_bne, Bool.false_xor, Bool.true_xor, Bool.not_true, Bool.not_false, Bool.not_not, beq_self_eq_true, Bool.and_true, Bool.true_and, nl, nls, decide_true, decide_false, exists_eq_left, Bool.false_eq_true, Option.some_inj, Int.reduceToNat, Int.reducePow, Int.reduceMul, Int.reduceSub, Int.reduceAdd, Int.reduceNeg, Nat.reducePow, Nat.reduceLeDiff, Int.reduceLE, Int.reduceLT, Int.reduceAbs, Int.natAbs_neg, Nat.reduceLT, divW_eq, mulW_eq, Bool.or_true, Bool.true_or, cut_map, ← List.map_append, ← List.map_reverse, castN, eq_self, Int.reduceEq, deqC, deq_self, rep_map, nls_dP, wsAugIx, tx_cps, tx_len, tx_app, tx_one, tx_nil, tx_cut, tx_signs, tx_rep, lit_empty, tx_inj, wJoin, gJoin, wmCall, wmOpL, wmOpR, wmIxR, wmTup2, wsSetM, wsAppM, wForM, gSum, gAny, gAll, gLtD, gInT, gSorted, gAddT, wThaw, gMaxL, wIsE, wIsV, wCallE, wTry, DEnds.off, gInB, wDct0, wCntB, wIdxB, wTryF, wIdxS, gInX, gIns, gTup, wDct1, gEqR, wsSetG, wgd0, wgdC, wLck, wDctL, wGetD, dctOf, wsSetKey, wItems, wSortI, wsCallMD, endsMD, endMD, startMD, gGtS, wsSetV]
  refine Br.d (fun h8 => ?_) (fun h8 => ?_)
  · walk_at "s"
    exact q c rfl ⟨hg, fun z => by omega⟩
  · walk_at "s"
    refine loop_ind (S := List Pc × Sl × Sl) dP (fun s => [.fz (.lst (c.map dP)), .own false (.lst (s.1.map dP)), s.2.1, s.2.2])
      (fun r s => s.1.length + r.length = c.length ∧ Gds 1000 s.1 ∧ Gds (10 ^ 30) r) ?_ ?_ _ ([], .un, .un) ⟨by simp, .nil, hg⟩
    · rintro ⟨d, s2, s3⟩ ⟨h1, h2, _⟩
      walk_at "s"
      exact q d (by simpa using h1) ⟨h2.mono (by decide), fun _ => h2⟩
    · rintro ⟨n, t⟩ r ⟨d, s2, s3⟩ L ⟨h1, h2, h3⟩ ih
      simp only [List.length_cons] at h1
      have hn := (h3 (n, t) (by simp)).1
      have go : ∀ u : Int, -1000 ≤ u → u ≤ 1000 → L [.fz (.lst (c.map dP)), .own false (.lst (d.map dP ++ [.tup [.str n, .int u]])), .fz (.str n), .fz (.int t)] := fun u u0 u1 => by
        have := ih (d ++ [(n, u)], .fz (.str n), .fz (.int t)) ⟨by simp; omega, h2.app fun p hp => by rw [List.mem_singleton] at hp; subst hp; exact ⟨hn, u0, u1⟩, fun p hp => h3 p (by simp [hp])⟩
        simpa [dP] using this
      walk_at "s"
      refine Br.d (fun h => ?_) (fun h => ?_)
      · walk_at "s"
        exact ⟨by omega, go _ (by omega) (by omega)⟩
      · walk_at "s"
        exact ⟨by omega, go _ (by omega) (by omega)⟩
def SP_law_at : Spec := fun ds _ R => ∃ ns k, ds = [.scr ns, .int k] ∧ 0 ≤ k ∧ R (.val (.int (ns.getD k.toNat 0)))
theorem len_law_at (ds : List D) (x : XS) (R : Rt → Prop) (h : SP_law_at ds x R) : ds.length = ["_law_script", "_law_k"].length := by
  obtain ⟨ns, k, rfl, _⟩ := h; rfl
def W_law_at : WS :=
  (wSeqS (wIfS (wtOn (wOp (gCmp fun i j => decide (i < j)) (wVar 1) (wB gLen (wCons (wVar 0) wNil))))
  (wsRet (wOp gIdx (wVar 0) (wVar 1)))
  wsNil)
  (wsRet (wC (.int 0))))
theorem pure_law_at (ds : List D) (x : XS) (R : Rt → Prop) (h : SP_law_at ds x R) : W_law_at (endsOf R x) (startE 2 ds) := by
  obtain ⟨ns, k, rfl, hk, q⟩ := h
  simp only [W_law_at, wVar, wOwn, wC, wOp, onBl, wtOn, wChain, trD, wtVal, wtNot, wAnd, wOr, wAndV, wOrV, wNotV, wIf, wNil, wCons, wTup, wLst, wUn, wNew, gAdd, gInt, gInt0, gMul, gCatF, gRepF, wOpF, gEq, gCmp, gInS, gIsN, isN, gIsB, gIdx, woNone, woSome, gSl, wSl, gSlF, wSlF, wB, wBF, gLen, gInt1, gInt2, gToInt, gListF, tyName, gIsT, wIsT, wCall, Rt.d, Cn.d, onNew, wCallF, wCallN, wCallNF, nlR, wgName, wgNil, wgCons, wgTup, wSeq, wSeqT, wSigns, wRng1, wRng2, wRng3, wRev, wEnum, wZip, wLc, wtYes, wsNil, wsBrk, wsCnt, wsExpr, wsRet, wsRetF, wsRetOwn, wsRetN, wIfS, wsSet, wsSetF, wsAsg, wsPar, wsAug, gApp, gExt, gPop0, gRev, wMut, wsSetIx, wFor, wsRaise, wSeqS, wFrz, wsCallM, wsPopAdd, endsOf, endM, endsM, startM, startE, wipeE, smallI, CPow, Br_true, Br_false, Br_not, rngD_eq, dC, dP, dI, ex_atI_map, atI0, atI1, atI2, kit1, kit2, kit3, kit4, kit5, kit6, kit7, kit8, kit9, kit10, kit11, kit12, kit13, kit14, kit15, kit16, kit17, kit18, kit19, kit20, kit21, kit22, kit23, kit24, kit25, kit26, kit27, kit28, kit29, kit30, kit31, kit32, kit33, kit34, kit35, sizeLine_eq, true_and, and_true, exists_eq_left', Option.some.injEq, List.map_cons, List.map_nil, List.length_cons, List.length_nil, List.length_map, List.length_append, List.cons_append, List.nil_append, List.set_cons_zero, List.set_cons_succ, List.getElem?_cons_zero, List.getElem?_cons_succ, List.getElem?_nil, Nat.reduceSub, Nat.reduceAdd, Nat.zero_add, Nat.sub_self, List.replicate_succ, List.replicate_zero, Bool.false_bne, Bool.true_bne, Bool.false_xor, Bool.true_xor, Bool.not_true, Bool.not_false, Bool.not_not, beq_self_eq_true, Bool.and_true, Bool.true_and, nl, nls, decide_true, decide_false, exists_eq_left, Bool.false_eq_true, Option.some_inj, Int.reduceToNat, Int.reducePow, Int.reduceMul, Int.reduceSub, Int.reduceAdd, Int.reduceNeg, Nat.reducePow, Nat.reduceLeDiff, Int.reduceLE, Int.reduceLT, Int.reduceAbs, Int.natAbs_neg, Nat.reduceLT, divW_eq, mulW_eq, Bool.or_true, Bool.true_or, cut_map, ← List.map_append, ← List.map_reverse, castN, eq_self, Int.reduceEq, deqC, deq_self, rep_map, nls_dP, wsAugIx, tx_cps, tx_len, tx_app, tx_one, tx_nil, tx_cut, tx_signs, tx_rep, lit_empty, tx_inj, wJoin, gJoin, wmCall, wmOpL, wmOpR, wmIxR, wmTup2, wsSetM, wsAppM, wForM, gSum, gAny, gAll, gLtD, gInT, gSorted, gAddT, wThaw, gMaxL, wIsE, wIsV, wCallE, wTry, DEnds.off, gInB, wDct0, wCntB, wIdxB, wTryF, wIdxS, gInX, gIns, gTup, wDct1, gEqR, wsSetG, wgd0, wgdC, wLck, wDctL, wGetD, dctOf, wsSetKey, wItems, wSortI, wsCallMD, endsMD, endMD, startMD, gGtS, wsSetV]
  refine Br.d (fun h => ?_) (fun h => ?_)
  · walk_at "s"
    refine ⟨_, atI_at (j := k.toNat) (by omega) (by omega), ?_⟩
    rwa [List.getD_eq_getElem?_getD, List.getElem?_eq_getElem (by omega)] at q
  · walk_at "s"
    rwa [List.getD_eq_getElem?_getD, List.getElem?_eq_none (by omega)] at q
def SP_law_contrary : Spec := fun ds _ R => ∃ c : List Pc, ds = [dC c] ∧ c.length ≤ 16777216 ∧ R (.new (.lst ((con c).map dP)))
theorem len_law_contrary (ds : List D) (x : XS) (R : Rt → Prop) (h : SP_law_contrary ds x R) : ds.length = ["_law_cord_here"].length := by
  obtain ⟨c, rfl, _⟩ := h; rfl
def W_law_contrary : WS :=
  (wsRetF (wLc (wRev (wVar 0)) (wgTup 2 (wgCons (wgName 1) (wgCons (wgName 2) wgNil))) wtYes (wTup (wCons (wVar 1) (wCons (wOp (gInt0 fun i j => i - j) (wC (.int 0)) (wVar 2)) wNil))) [1, 2]))
theorem pure_law_contrary (ds : List D) (x : XS) (R : Rt → Prop) (h : SP_law_contrary ds x R) : W_law_contrary (endsOf R x) (startE 3 ds) := by
  obtain ⟨c, rfl, hl, q⟩ := h
  simp only [W_law_contrary, wVar, wOwn, wC, wOp, onBl, wtOn, wChain, trD, wtVal, wtNot, wAnd, wOr, wAndV, wOrV, wNotV, wIf, wNil, wCons, wTup, wLst, wUn, wNew, gAdd, gInt, gInt0, gMul, gCatF, gRepF, wOpF, gEq, gCmp, gInS, gIsN, isN, gIsB, gIdx, woNone, woSome, gSl, wSl, gSlF, wSlF, wB, wBF, gLen, gInt1, gInt2, gToInt, gListF, tyName, gIsT, wIsT, wCall, Rt.d, Cn.d, onNew, wCallF, wCallN, wCallNF, nlR, wgName, wgNil, wgCons, wgTup, wSeq, wSeqT, wSigns, wRng1, wRng2, wRng3, wRev, wEnum, wZip, wLc, wtYes, wsNil, wsBrk, wsCnt, wsExpr, wsRet, wsRetF, wsRetOwn, wsRetN, wIfS, wsSet, wsSetF, wsAsg, wsPar, wsAug, gApp, gExt, gPop0, gRev, wMut, wsSetIx, wFor, wsRaise, wSeqS, wFrz, wsCallM, wsPopAdd, endsOf, endM, endsM, startM, startE, wipeE, smallI, CPow, Br_true, Br_false, Br_not, rngD_eq, dC, dP, dI, ex_atI_map, atI0, atI1, atI2, kit1, kit2, kit3, kit4, kit5, kit6, kit7, kit8, kit9, kit10, kit11, kit12, kit13, kit14, kit15, kit16, kit17, kit18, kit19, kit20, kit21, kit22, kit23, kit24, kit25, kit26, kit27, kit28, kit29, kit30, kit31, kit32, kit33, kit34, kit35, sizeLine_eq, true_and, and_true, exists_eq_left', Option.some.injEq, List.map_cons, List.map_nil, List.length_cons, List.length_nil, List.length_map, List.length_append, List.cons_append, List.nil_append, List.set_cons_zero, List.set_cons_succ, List.getElem?_cons_zero, List.getElem?_cons_succ, List.getElem?_nil, Nat.reduceSub, Nat.reduceAdd, Nat.zero_add, Nat.sub_self, List.replicate_succ, List.replicate_zero, Bool.false_bne, Bool.true_bne, Bool.false_xor, Bool.true_xor, Bool.not_true, Bool.not_false, Bool.not_not, beq_self_eq_true, Bool.and_true, Bool.true_and, nl, nls, decide_true, decide_false, exists_eq_left, Bool.false_eq_true, Option.some_inj, Int.reduceToNat, Int.reducePow, Int.reduceMul, Int.reduceSub, Int.reduceAdd, Int.reduceNeg, Nat.reducePow, Nat.reduceLeDiff, Int.reduceLE, Int.reduceLT, Int.reduceAbs, Int.natAbs_neg, Nat.reduceLT, divW_eq, mulW_eq, Bool.or_true, Bool.true_or, cut_map, ← List.map_append, ← List.map_reverse, castN, eq_self, Int.reduceEq, deqC, deq_self, rep_map, nls_dP, wsAugIx, tx_cps, tx_len, tx_app, tx_one, tx_nil, tx_cut, tx_signs, tx_rep, lit_empty, tx_inj, wJoin, gJoin, wmCall, wmOpL, wmOpR, wmIxR, wmTup2, wsSetM, wsAppM, wForM, gSum, gAny, gAll, gLtD, gInT, gSorted, gAddT, wThaw, gMaxL, wIsE, wIsV, wCallE, wTry, DEnds.off, gInB, wDct0, wCntB, wIdxB, wTryF, wIdxS, gInX, gIns, gTup, wDct1, gEqR, wsSetG, wgd0, wgdC, wLck, wDctL, wGetD, dctOf, wsSetKey, wItems, wSortI, wsCallMD, endsMD, endMD, startMD, gGtS, wsSetV]
  refine compL_map dP (fun p => dP (p.1, -p.2)) (fun p Q' hq => ?_) _ _ ?_ ?_
  · simp only [wVar, wOwn, wC, wOp, onBl, wtOn, wChain, trD, wtVal, wtNot, wAnd, wOr, wAndV, wOrV, wNotV, wIf, wNil, wCons, wTup, wLst, wUn, wNew, gAdd, gInt, gInt0, gMul, gCatF, gRepF, wOpF, gEq, gCmp, gInS, gIsN, isN, gIsB, gIdx, woNone, woSome, gSl, wSl, gSlF, wSlF, wB, wBF, gLen, gInt1, gInt2, gToInt, gListF, tyName, gIsT, wIsT, wCall, Rt.d, Cn.d, onNew, wCallF, wCallN, wCallNF, nlR, wgName, wgNil, wgCons, wgTup, wSeq, wSeqT, wSigns, wRng1, wRng2, wRng3, wRev, wEnum, wZip, wLc, wtYes, wsNil, wsBrk, wsCnt, wsExpr, wsRet, wsRetF, wsRetOwn, wsRetN, wIfS, wsSet, wsSetF, wsAsg, wsPar, wsAug, gApp, gExt, gPop0, gRev, wMut, wsSetIx, wFor, wsRaise, wSeqS, wFrz, wsCallM, wsPopAdd, endsOf, endM, endsM, startM, startE, wipeE, smallI, CPow, Br_true, Br_false, Br_not, rngD_eq, dC, dP, dI, ex_atI_map, atI0, atI1, atI2, kit1, kit2, kit3, kit4, kit5, kit6, kit7, kit8, kit9, kit10, kit11, kit12, kit13, kit14, kit15, kit16, kit17, kit18, kit19, kit20, kit21, kit22, kit23, kit24, kit25, kit26, kit27, kit28, kit29, kit30, kit31, kit32, kit33, kit34, kit35, sizeLine_eq, true_and, and_true, exists_eq_left', Option.some.injEq, List.map_cons, List.map_nil, List.length_cons, List.length_nil, List.length_map, List.length_append, List.cons_append, List.nil_append, List.set_cons_zero, List.set_cons_succ, List.getElem?_cons_zero, List.getElem?_cons_succ, List.getElem?_nil, Nat.reduceSub, Nat.reduceAdd, Nat.zero_add, Nat.sub_self, List.replicate_succ, List.replicate_zero, Bool.false_bne, Bool.true_bne, Bool.false_xor, Bool.true_xor, Bool.not_true, Bool.not_false, Bool.not_not, beq_self_eq_true, Bool.and_true, Bool.true_and, nl, nls, decide_true, decide_false, exists_eq_left, Bool.false_eq_true, Option.some_inj, Int.reduceToNat, Int.reducePow, Int.reduceMul, Int.reduceSub, Int.reduceAdd, Int.reduceNeg, Nat.reducePow, Nat.reduceLeDiff, Int.reduceLE, Int.reduceLT, Int.reduceAbs, Int.natAbs_neg, Nat.reduceLT, divW_eq, mulW_eq, Bool.or_true, Bool.true_or, cut_map, ← List.map_append, ← List.map_reverse, castN, eq_self, Int.reduceEq, deqC, deq_self, rep_map, nls_dP, wsAugIx, tx_cps, tx_len, tx_app, tx_one, tx_nil, tx_cut, tx_signs, tx_rep, lit_empty, tx_inj, wJoin, gJoin, wmCall, wmOpL, wmOpR, wmIxR, wmTup2, wsSetM, wsAppM, wForM, gSum, gAny, gAll, gLtD, gInT, gSorted, gAddT, wThaw, gMaxL, wIsE, wIsV, wCallE, wTry, DEnds.off, gInB, wDct0, wCntB, wIdxB, wTryF, wIdxS, gInX, gIns, gTup, wDct1, gEqR, wsSetG, wgd0, wgdC, wLck, wDctL, wGetD, dctOf, wsSetKey, wItems, wSortI, wsCallMD, endsMD, endMD, startMD, gGtS, wsSetV]
    simpa [dP] using hq
  · simp only [wVar, wOwn, wC, wOp, onBl, wtOn, wChain, trD, wtVal, wtNot, wAnd, wOr, wAndV, wOrV, wNotV, wIf, wNil, wCons, wTup, wLst, wUn, wNew, gAdd, gInt, gInt0, gMul, gCatF, gRepF, wOpF, gEq, gCmp, gInS, gIsN, isN, gIsB, gIdx, woNone, woSome, gSl, wSl, gSlF, wSlF, wB, wBF, gLen, gInt1, gInt2, gToInt, gListF, tyName, gIsT, wIsT, wCall, Rt.d, Cn.d, onNew, wCallF, wCallN, wCallNF, nlR, wgName, wgNil, wgCons, wgTup, wSeq, wSeqT, wSigns, wRng1, wRng2, wRng3, wRev, wEnum, wZip, wLc, wtYes, wsNil, wsBrk, wsCnt, wsExpr, wsRet, wsRetF, wsRetOwn, wsRetN, wIfS, wsSet, wsSetF, wsAsg, wsPar, wsAug, gApp, gExt, gPop0, gRev, wMut, wsSetIx, wFor, wsRaise, wSeqS, wFrz, wsCallM, wsPopAdd, endsOf, endM, endsM, startM, startE, wipeE, smallI, CPow, Br_true, Br_false, Br_not, rngD_eq, dC, dP, dI, ex_atI_map, atI0, atI1, atI2, kit1, kit2, kit3, kit4, kit5, kit6, kit7, kit8, kit9, kit10, kit11, kit12, kit13, kit14, kit15, kit16, kit17, kit18, kit19, kit20, kit21, kit22, kit23, kit24, kit25, kit26, kit27, kit28, kit29, kit30, kit31, kit32, kit33, kit34, kit35, sizeLine_eq, true_and, and_true, exists_eq_left', Option.some.injEq, List.map_cons, List.map_nil, List.length_cons, List.length_nil, List.length_map, List.length_append, List.cons_append, List.nil_append, List.set_cons_zero, List.set_cons_succ, List.getElem?_cons_zero, List.getElem?_cons_succ, List.getElem?_nil, Nat.reduceSub, Nat.reduceAdd, Nat.zero_add, Nat.sub_self, List.replicate_succ, List.replicate_zero, Bool.false_bne, Bool.true_bne, Bool.false_xor, Bool.true_xor, Bool.not_true, Bool.not_false, Bool.not_not, beq_self_eq_true, Bool.and_true, Bool.true_and, nl, nls, decide_true, decide_false, exists_eq_left, Bool.false_eq_true, Option.some_inj, Int.reduceToNat, Int.reducePow, Int.reduceMul, Int.reduceSub, Int.reduceAdd, Int.reduceNeg, Nat.reducePow, Nat.reduceLeDiff, Int.reduceLE, Int.reduceLT, Int.reduceAbs, Int.natAbs_neg, Nat.reduceLT, divW_eq, mulW_eq, Bool.or_true, Bool.true_or, cut_map, ← List.map_append, ← List.map_reverse, castN, eq_self, Int.reduceEq, deqC, deq_self, rep_map, nls_dP, wsAugIx, tx_cps, tx_len, tx_app, tx_one, tx_nil, tx_cut, tx_signs, tx_rep, lit_empty, tx_inj, wJoin, gJoin, wmCall, wmOpL, wmOpR, wmIxR, wmTup2, wsSetM, wsAppM, wForM, gSum, gAny, gAll, gLtD, gInT, gSorted, gAddT, wThaw, gMaxL, wIsE, wIsV, wCallE, wTry, DEnds.off, gInB, wDct0, wCntB, wIdxB, wTryF, wIdxS, gInX, gIns, gTup, wDct1, gEqR, wsSetG, wgd0, wgdC, wLck, wDctL, wGetD, dctOf, wsSetKey, wItems, wSortI, wsCallMD, endsMD, endMD, startMD, gGtS, wsSetV]; simpa using hl
  · simpa [con, Function.comp_def] using q
def lawOne (cell k : Int) : Int := (cell % 10000000000000000000000000000000000000000 * (62089911 + 2 * k) + 982451653 * k + 17) % 4294967291
def lawMix (cell k : Int) : Int := lawOne cell k * (lawOne cell k / 1024 + 2 * k + 1) % 4294967279
def SP_law_mix : Spec := fun ds _ R => ∃ cell k : Int, ds = [.int cell, .int k] ∧ 0 ≤ k ∧ k ≤ 100000 ∧ R (.val (.int (lawMix cell k)))
theorem len_law_mix (ds : List D) (x : XS) (R : Rt → Prop) (h : SP_law_mix ds x R) : ds.length = ["_law_cell", "_law_k"].length := by
  obtain ⟨c, k, rfl, _⟩ := h; rfl
def W_law_mix : WS :=
  (wSeqS (wsSet 2 (wOp (gInt (fun _ j => 0 < j) fun i j => i % j) (wOp gAdd (wOp gAdd (wOp gMul (wOp (gInt (fun _ j => 0 < j) fun i j => i % j) (wVar 0) (wOp (gInt CPow fun i j => i ^ j.toNat) (wC (.int 10)) (wC (.int 40)))) (wOp gAdd (wC (.int 62089911)) (wOp gMul (wC (.int 2)) (wVar 1)))) (wOp gMul (wC (.int 982451653)) (wVar 1))) (wC (.int 17))) (wC (.int 4294967291))))
  (wsRet (wOp (gInt (fun _ j => 0 < j) fun i j => i % j) (wOp gMul (wVar 2) (wOp gAdd (wOp gAdd (wOp (gInt CDivW fun i j => i / j) (wVar 2) (wC (.int 1024))) (wOp gMul (wC (.int 2)) (wVar 1))) (wC (.int 1)))) (wC (.int 4294967279)))))
theorem pure_law_mix (ds : List D) (x : XS) (R : Rt → Prop) (h : SP_law_mix ds x R) : W_law_mix (endsOf R x) (startE 3 ds) := by
  obtain ⟨cell, k, rfl, hk, hk2, q⟩ := h
  have b0 : 0 ≤ cell % 10000000000000000000000000000000000000000 := Int.emod_nonneg _ (by decide)
  have b1 : cell % 10000000000000000000000000000000000000000 < 10000000000000000000000000000000000000000 := Int.emod_lt_of_pos _ (by decide)
  have c0 : 0 ≤ lawOne cell k := Int.emod_nonneg _ (by decide)
  have c1 : lawOne cell k < 4294967291 := Int.emod_lt_of_pos _ (by decide)
  simp only [W_law_mix, wVar, wOwn, wC, wOp, onBl, wtOn, wChain, trD, wtVal, wtNot, wAnd, wOr, wAndV, wOrV, wNotV, wIf, wNil, wCons, wTup, wLst, wUn, wNew, gAdd, gInt, gInt0, gMul, gCatF, gRepF, wOpF, gEq, gCmp, gInS, gIsN, isN, gIsB, gIdx, woNone, woSome, gSl, wSl, gSlF, wSlF, wB, wBF, gLen, gInt1, gInt2, gToInt, gListF, tyName, gIsT, wIsT, wCall, Rt.d, Cn.d, onNew, wCallF, wCallN, wCallNF, nlR, wgName, wgNil, wgCons, wgTup, wSeq, wSeqT, wSigns, wRng1, wRng2, wRng3, wRev, wEnum, wZip, wLc, wtYes, wsNil, wsBrk, wsCnt, wsExpr, wsRet, wsRetF, wsRetOwn, wsRetN, wIfS, wsSet, wsSetF, wsAsg, wsPar, wsAug, gApp, gExt, gPop0, gRev, wMut, wsSetIx, wFor, wsRaise, wSeqS, wFrz, wsCallM, wsPopAdd, endsOf, endM, endsM, startM, startE, wipeE, smallI, CPow, Br_true, Br_false, Br_not, rngD_eq, dC, dP, dI, ex_atI_map, atI0, atI1, atI2, kit1, kit2, kit3, kit4, kit5, kit6, kit7, kit8, kit9, kit10, kit11, kit12, kit13, kit14, kit15, kit16, kit17, kit18, kit19, kit20, kit21, kit22, kit23, kit24, kit25, kit26, kit27, kit28, kit29, kit30, kit31, kit32, kit33, kit34, kit35, sizeLine_eq, true_and, and_true, exists_eq_left', Option.some.injEq, List.map_cons, List.map_nil, List.length_cons, List.length_nil, List.length_map, List.length_append, List.cons_append, List.nil_append, List.set_cons_zero, List.set_cons_succ, List.getElem?_cons_zero, List.getElem?_cons_succ, List.getElem?_nil, Nat.reduceSub, Nat.reduceAdd, Nat.zero_add, Nat.sub_self, List.replicate_succ, List.replicate_zero, Bool.false_bne, Bool.true_bne, Bool.false_xor, Bool.true_xor, Bool.not_true, Bool.not_false, Bool.not_not, beq_self_eq_true, Bool.and_true, Bool.true_and, nl, nls, decide_true, decide_false, exists_eq_left, Bool.false_eq_true, Option.some_inj, Int.reduceToNat, Int.reducePow, Int.reduceMul, Int.reduceSub, Int.reduceAdd, Int.reduceNeg, Nat.reducePow, Nat.reduceLeDiff, Int.reduceLE, Int.reduceLT, Int.reduceAbs, Int.natAbs_neg, Nat.reduceLT, divW_eq, mulW_eq, Bool.or_true, Bool.true_or, cut_map, ← List.map_append, ← List.map_reverse, castN, eq_self, Int.reduceEq, deqC, deq_self, rep_map, nls_dP, wsAugIx, tx_cps, tx_len, tx_app, tx_one, tx_nil, tx_cut, tx_signs, tx_rep, lit_empty, tx_inj, wJoin, gJoin, wmCall, wmOpL, wmOpR, wmIxR, wmTup2, wsSetM, wsAppM, wForM, gSum, gAny, gAll, gLtD, gInT, gSorted, gAddT, wThaw, gMaxL, wIsE, wIsV, wCallE, wTry, DEnds.off, gInB, wDct0, wCntB, wIdxB, wTryF, wIdxS, gInX, gIns, gTup, wDct1, gEqR, wsSetG, wgd0, wgdC, wLck, wDctL, wGetD, dctOf, wsSetKey, wItems, wSortI, wsCallMD, endsMD, endMD, startMD, gGtS, wsSetV]
  refine ⟨mulW (by omega) (by omega), mulW (by omega) (by omega), mulW (by omega) (by omega), ?_⟩
  change CMulW 2 k ∧ CMulW (lawOne cell k) (lawOne cell k / 1024 + 2 * k + 1) ∧ R (.val (.int (lawMix cell k)))
  exact ⟨mulW (by omega) (by omega), mulW (by omega) (by omega), q⟩
def lawVal (cell rest k : Int) : Int := if (if cell < 0 then -cell else cell) < 1000000000000000000 ∨ (-28 < rest ∧ rest < 28) then lawMix cell k else rest
def lawPc (v : Int) : Pc := (lawSign "abcz" (v % 4), v / 4 % 7 - 3)
def lawPcs (cell : Int) : List Int → Int → List Pc
  | [], _ => []
  | k :: ks, rest => lawPc (lawVal cell rest k) :: lawPcs cell ks (rest / 28)
def lawPieces (cell : Int) : List Pc := if cell % 5 = 2 then [(lawSign "abcdefghijklmnopqrstuvwxyz" (cell / 5 % 26), cell / 5 / 26 % (2 * 10 ^ 30 - 1) - (10 ^ 30 - 1))]
  else lawPcs cell (rng 0 1 (cell / 5 % 13).toNat) (cell / 5 / 13)
theorem lawPc_gd (v : Int) : Gd 3 (lawPc v) := by
  obtain ⟨c, e, _, h⟩ := lawSign_at (s := "abcz") (i := v % 4) (by omega) (by rw [abcz_len]; omega) abcz_ok
  refine ⟨h, ?_, ?_⟩
  · show -3 ≤ v / 4 % 7 - 3; omega
  · show v / 4 % 7 - 3 ≤ 3; omega
theorem lawPcs_gd (cell : Int) : ∀ (ks : List Int) (rest : Int), Gds 3 (lawPcs cell ks rest)
  | [], _ => .nil
  | k :: ks, rest => fun p hp => by
    rcases List.mem_cons.mp hp with e | e
    · rw [e]; exact lawPc_gd _
    · exact lawPcs_gd cell ks _ p e
theorem lawPcs_len (cell : Int) : ∀ (ks : List Int) (rest : Int), (lawPcs cell ks rest).length = ks.length
  | [], _ => rfl
  | k :: ks, rest => by simp [lawPcs, lawPcs_len cell ks]
theorem lawPieces_len (cell : Int) : (lawPieces cell).length ≤ 12 := by
  unfold lawPieces
  split
  · simp
  · rw [lawPcs_len, rng_len]; omega
theorem lawPieces_gd (cell : Int) : Gds (10 ^ 30) (lawPieces cell) := by
  unfold lawPieces
  have e30 : (10 : Int) ^ 30 = 1000000000000000000000000000000 := by decide
  split
  · intro p hp
    rw [List.mem_singleton] at hp
    subst hp
    obtain ⟨c, e, _, h⟩ := lawSign_at (s := "abcdefghijklmnopqrstuvwxyz") (i := cell / 5 % 26) (by omega) (by rw [az_len]; omega) az_ok
    refine ⟨h, ?_, ?_⟩
    · show -(10 ^ 30 : Int) ≤ _ - _
      rw [e30]; omega
    · show _ - _ ≤ (10 ^ 30 : Int)
      rw [e30]; omega
  · exact (lawPcs_gd _ _ _).mono (by rw [e30]; omega)
def SP_law_pieces : Spec := fun ds _ R => ∃ cell : Int, ds = [.int cell] ∧ R (.new (.lst ((lawPieces cell).map dP)))
theorem len_law_pieces (ds : List D) (x : XS) (R : Rt → Prop) (h : SP_law_pieces ds x R) : ds.length = ["_law_cell"].length := by
  obtain ⟨c, rfl, _⟩ := h; rfl
def W_law_pieces : WS :=
  (wSeqS (wsSet 1 (wOp (gInt CDivW fun i j => i / j) (wVar 0) (wC (.int 5))))
  (wSeqS (wIfS (wtOn (wOp (gEq false) (wOp (gInt (fun _ j => 0 < j) fun i j => i % j) (wVar 0) (wC (.int 5))) (wC (.int 2))))
  (wSeqS (wsSet 5 (wOp gIdx (wC (.str "abcdefghijklmnopqrstuvwxyz")) (wOp (gInt (fun _ j => 0 < j) fun i j => i % j) (wVar 1) (wC (.int 26)))))
  (wsRetF (wLst (wCons (wTup (wCons (wVar 5) (wCons (wOp (gInt0 fun i j => i - j) (wOp (gInt (fun _ j => 0 < j) fun i j => i % j) (wOp (gInt CDivW fun i j => i / j) (wVar 1) (wC (.int 26))) (wOp (gInt0 fun i j => i - j) (wOp gMul (wC (.int 2)) (wOp (gInt CPow fun i j => i ^ j.toNat) (wC (.int 10)) (wC (.int 30)))) (wC (.int 1)))) (wOp (gInt0 fun i j => i - j) (wOp (gInt CPow fun i j => i ^ j.toNat) (wC (.int 10)) (wC (.int 30))) (wC (.int 1)))) wNil))) wNil))))
  wsNil)
  (wSeqS (wsSet 2 (wOp (gInt (fun _ j => 0 < j) fun i j => i % j) (wVar 1) (wC (.int 13))))
  (wSeqS (wsSet 1 (wOp (gInt CDivW fun i j => i / j) (wVar 1) (wC (.int 13))))
  (wSeqS (wsSetF 3 (wLst wNil))
  (wSeqS (wFor (wRng1 (wVar 2)) (wgName 4)
  (wSeqS (wsSet 6 (wVar 1))
  (wSeqS (wIfS (wOr (wtOn (wOp (gCmp fun i j => decide (i < j)) (wB (gInt1 fun i => if i < 0 then -i else i) (wCons (wVar 0) wNil)) (wOp (gInt CPow fun i j => i ^ j.toNat) (wC (.int 10)) (wC (.int 18))))) (wtOn (wChain (gCmp fun i j => decide (i < j)) (gCmp fun i j => decide (i < j)) (wUn (fun i => -i) (wC (.int 28))) (wVar 1) (wC (.int 28)))))
  (wsSet 6 (wCall SP_law_mix (wCons (wVar 0) (wCons (wVar 4) wNil))))
  wsNil)
  (wSeqS (wMut 3 gApp (wCons (wTup (wCons (wOp gIdx (wC (.str "abcz")) (wOp (gInt (fun _ j => 0 < j) fun i j => i % j) (wVar 6) (wC (.int 4)))) (wCons (wOp (gInt0 fun i j => i - j) (wOp (gInt (fun _ j => 0 < j) fun i j => i % j) (wOp (gInt CDivW fun i j => i / j) (wVar 6) (wC (.int 4))) (wC (.int 7))) (wC (.int 3))) wNil))) wNil))
  (wsSet 1 (wOp (gInt CDivW fun i j => i / j) (wVar 1) (wC (.int 28))))))))
  (wsRetOwn 3)))))))
theorem pure_law_pieces (ds : List D) (x : XS) (R : Rt → Prop) (h : SP_law_pieces ds x R) : W_law_pieces (endsOf R x) (startE 7 ds) := by
  obtain ⟨cell, rfl, q⟩ := h
  have z1 := az_sz
  have z2 := abcz_sz
  unfold lawPieces at q
  simp only [W_law_pieces, wVar, wOwn, wC, wOp, onBl, wtOn, wChain, trD, wtVal, wtNot, wAnd, wOr, wAndV, wOrV, wNotV, wIf, wNil, wCons, wTup, wLst, wUn, wNew, gAdd, gInt, gInt0, gMul, gCatF, gRepF, wOpF, gEq, gCmp, gInS, gIsN, isN, gIsB, gIdx, woNone, woSome, gSl, wSl, gSlF, wSlF, wB, wBF, gLen, gInt1, gInt2, gToInt, gListF, tyName, gIsT, wIsT, wCall, Rt.d, Cn.d, onNew, wCallF, wCallN, wCallNF, nlR, wgName, wgNil, wgCons, wgTup, wSeq, wSeqT, wSigns, wRng1, wRng2, wRng3, wRev, wEnum, wZip, wLc, wtYes, wsNil, wsBrk, wsCnt, wsExpr, wsRet, wsRetF, wsRetOwn, wsRetN, wIfS, wsSet, wsSetF, wsAsg, wsPar, wsAug, gApp, gExt, gPop0, gRev, wMut, wsSetIx, wFor, wsRaise, wSeqS, wFrz, wsCallM, wsPopAdd, endsOf, endM, endsM, startM, startE, wipeE, smallI, CPow, Br_true, Br_false, Br_not, rngD_eq, dC, dP, dI, ex_atI_map, atI0, atI1, atI2, kit1, kit2, kit3, kit4, kit5, kit6, kit7, kit8, kit9, kit10, kit11, kit12, kit13, kit14, kit15, kit16, kit17, kit18, kit19, kit20, kit21, kit22, kit23, kit24, kit25, kit26, kit27, kit28, kit29, kit30, kit31, kit32, kit33, kit34, kit35, sizeLine_eq, true_and, and_true, exists_eq_left', Option.some.injEq, List.map_cons, List.map_nil, List.length_cons, List.length_nil, List.length_map, List.length_append, List.cons_append, List.nil_append, List.set_cons_zero, List.set_cons_succ, List.getElem?_cons_zero, List.getElem?_cons_succ, List.getElem?_nil, Nat.reduceSub, Nat.reduceAdd, Nat.zero_add, Nat.sub_self, List.replicate_succ, List.replicate_zero, Bool.false_bne, Bool.true_bne, Bool.false_xor, Bool.true_xor, Bool.not_true, Bool.not_false, Bool.not_not, beq_self_eq_true, Bool.and_true, Bool.true_and, nl, nls, decide_true, decide_false, exists_eq_left, Bool.false_eq_true, Option.some_inj, Int.reduceToNat, Int.reducePow, Int.reduceMul, Int.reduceSub, Int.reduceAdd, Int.reduceNeg, Nat.reducePow, Nat.reduceLeDiff, Int.reduceLE, Int.reduceLT, Int.reduceAbs, Int.natAbs_neg, Nat.reduceLT, divW_eq, mulW_eq, Bool.or_true, Bool.true_or, cut_map, ← List.map_append, ← List.map_reverse, castN, eq_self, Int.reduceEq, deqC, deq_self, rep_map, nls_dP, wsAugIx, tx_cps, tx_len, tx_app, tx_one, tx_nil, tx_cut, tx_signs, tx_rep, lit_empty, tx_inj, wJoin, gJoin, wmCall, wmOpL, wmOpR, wmIxR, wmTup2, wsSetM, wsAppM, wForM, gSum, gAny, gAll, gLtD, gInT, gSorted, gAddT, wThaw, gMaxL, wIsE, wIsV, wCallE, wTry, DEnds.off, gInB, wDct0, wCntB, wIdxB, wTryF, wIdxS, gInX, gIns, gTup, wDct1, gEqR, wsSetG, wgd0, wgdC, wLck, wDctL, wGetD, dctOf, wsSetKey, wItems, wSortI, wsCallMD, endsMD, endMD, startMD, gGtS, wsSetV]
  refine Br.d (fun h5 => ?_) (fun h5 => ?_)
  · walk_at "s"
    refine ⟨z1, ?_⟩
    obtain ⟨c, e, e2, _⟩ := lawSign_at (s := "abcdefghijklmnopqrstuvwxyz") (i := cell / 5 % 26) (by omega) (by rw [az_len]; omega) az_ok
    refine ⟨c, e, ?_⟩
    rw [e2]
    rw [if_pos h5] at q
    simpa [dP] using q
  · rw [if_neg h5] at q
    walk_at "s"
    refine ⟨by omega, ?_⟩
    refine loop_ind (S := List Pc × Int × Sl × Sl × Sl) D.int (fun s => [.fz (.int cell), .fz (.int s.2.1), .fz (.int (cell / 5 % 13)), .own false (.lst (s.1.map dP)), s.2.2.1, s.2.2.2.1, s.2.2.2.2])
      (fun ks s => s.1 ++ lawPcs cell ks s.2.1 = lawPcs cell (rng 0 1 (cell / 5 % 13).toNat) (cell / 5 / 13) ∧ s.1.length + ks.length ≤ 100 ∧ ∀ k ∈ ks, 0 ≤ k ∧ k ≤ 100) ?_ ?_ _ ([], cell / 5 / 13, .un, .un, .un) ?_
    · rintro ⟨acc, rest, s4, s5, s6⟩ ⟨e, _, _⟩
      simp only [wVar, wOwn, wC, wOp, onBl, wtOn, wChain, trD, wtVal, wtNot, wAnd, wOr, wAndV, wOrV, wNotV, wIf, wNil, wCons, wTup, wLst, wUn, wNew, gAdd, gInt, gInt0, gMul, gCatF, gRepF, wOpF, gEq, gCmp, gInS, gIsN, isN, gIsB, gIdx, woNone, woSome, gSl, wSl, gSlF, wSlF, wB, wBF, gLen, gInt1, gInt2, gToInt, gListF, tyName, gIsT, wIsT, wCall, Rt.d, Cn.d, onNew, wCallF, wCallN, wCallNF, nlR, wgName, wgNil, wgCons, wgTup, wSeq, wSeqT, wSigns, wRng1, wRng2, wRng3, wRev, wEnum, wZip, wLc, wtYes, wsNil, wsBrk, wsCnt, wsExpr, wsRet, wsRetF, wsRetOwn, wsRetN, wIfS, wsSet, wsSetF, wsAsg, wsPar, wsAug, gApp, gExt, gPop0, gRev, wMut, wsSetIx, wFor, wsRaise, wSeqS, wFrz, wsCallM, wsPopAdd, endsOf, endM, endsM, startM, startE, wipeE, smallI, CPow, Br_true, Br_false, Br_not, rngD_eq, dC, dP, dI, ex_atI_map, atI0, atI1, atI2, kit1, kit2, kit3, kit4, kit5, kit6, kit7, kit8, kit9, kit10, kit11, kit12, kit13, kit14, kit15, kit16, kit17, kit18, kit19, kit20, kit21, kit22, kit23, kit24, kit25, kit26, kit27, kit28, kit29, kit30, kit31, kit32, kit33, kit34, kit35, sizeLine_eq, true_and, and_true, exists_eq_left', Option.some.injEq, List.map_cons, List.map_nil, List.length_cons, List.length_nil, List.length_map, List.length_append, List.cons_append, List.nil_append, List.set_cons_zero, List.set_cons_succ, List.getElem?_cons_zero, List.getElem?_cons_succ, List.getElem?_nil, Nat.reduceSub, Nat.reduceAdd, Nat.zero_add, Nat.sub_self, List.replicate_succ, List.replicate_zero, Bool.false_bne, Bool.true_bne, Bool.false_xor, Bool.true_xor, Bool.not_true, Bool.not_false, Bool.not_not, beq_self_eq_true, Bool.and_true, Bool.true_and, nl, nls, decide_true, decide_false, exists_eq_left, Bool.false_eq_true, Option.some_inj, Int.reduceToNat, Int.reducePow, Int.reduceMul, Int.reduceSub, Int.reduceAdd, Int.reduceNeg, Nat.reducePow, Nat.reduceLeDiff, Int.reduceLE, Int.reduceLT, Int.reduceAbs, Int.natAbs_neg, Nat.reduceLT, divW_eq, mulW_eq, Bool.or_true, Bool.true_or, cut_map, ← List.map_append, ← List.map_reverse, castN, eq_self, Int.reduceEq, deqC, deq_self, rep_map, nls_dP, wsAugIx, tx_cps, tx_len, tx_app, tx_one, tx_nil, tx_cut, tx_signs, tx_rep, lit_empty, tx_inj, wJoin, gJoin, wmCall, wmOpL, wmOpR, wmIxR, wmTup2, wsSetM, wsAppM, wForM, gSum, gAny, gAll, gLtD, gInT, gSorted, gAddT, wThaw, gMaxL, wIsE, wIsV, wCallE, wTry, DEnds.off, gInB, wDct0, wCntB, wIdxB, wTryF, wIdxS, gInX, gIns, gTup, wDct1, gEqR, wsSetG, wgd0, wgdC, wLck, wDctL, wGetD, dctOf, wsSetKey, wItems, wSortI, wsCallMD, endsMD, endMD, startMD, gGtS, wsSetV]
      simp only [lawPcs, List.append_nil] at e
      rw [e]
      exact q
    · rintro k ks ⟨acc, rest, s4, s5, s6⟩ L ⟨e, hl, hk⟩ ih
      have hk0 := hk k (by simp)
      simp only at e hl
      rw [List.length_cons] at hl
      have fin : ∀ v, v = lawVal cell rest k → (Str.ofString "abcz").length ≤ 16777216 ∧ ∃ c, atI (Str.ofString "abcz").cps.toList (v % 4) = some c ∧ acc.length < 16777216 ∧
          L [.fz (.int cell), .fz (.int (rest / 28)), .fz (.int (cell / 5 % 13)), .own false (.lst (acc.map dP ++ [D.tup [.str (tx [c]), .int (v / 4 % 7 - 3)]])), .fz (.int k), s5, .fz (.int v)] := fun v hv => by
        obtain ⟨c, e1, e2, _⟩ := lawSign_at (s := "abcz") (i := v % 4) (by omega) (by rw [abcz_len]; omega) abcz_ok
        refine ⟨z2, c, e1, by omega, ?_⟩
        have := ih (acc ++ [lawPc v], rest / 28, .fz (.int k), s5, .fz (.int v)) ⟨?_, by simp; omega, fun j hj => hk j (by simp [hj])⟩
        · simpa [dP, lawPc, e2] using this
        · rw [← e, hv]
          simp [lawPcs]
      simp only [wVar, wOwn, wC, wOp, onBl, wtOn, wChain, trD, wtVal, wtNot, wAnd, wOr, wAndV, wOrV, wNotV, wIf, wNil, wCons, wTup, wLst, wUn, wNew, gAdd, gInt, gInt0, gMul, gCatF, gRepF, wOpF, gEq, gCmp, gInS, gIsN, isN, gIsB, gIdx, woNone, woSome, gSl, wSl, gSlF, wSlF, wB, wBF, gLen, gInt1, gInt2, gToInt, gListF, tyName, gIsT, wIsT, wCall, Rt.d, Cn.d, onNew, wCallF, wCallN, wCallNF, nlR, wgName, wgNil, wgCons, wgTup, wSeq, wSeqT, wSigns, wRng1, wRng2, wRng3, wRev, wEnum, wZip, wLc, wtYes, wsNil, wsBrk, wsCnt, wsExpr, wsRet, wsRetF, wsRetOwn, wsRetN, wIfS, wsSet, wsSetF, wsAsg, wsPar, wsAug, gApp, gExt, gPop0, gRev, wMut, wsSetIx, wFor, wsRaise, wSeqS, wFrz, wsCallM, wsPopAdd, endsOf, endM, endsM, startM, startE, wipeE, smallI, CPow, Br_true, Br_false, Br_not, rngD_eq, dC, dP, dI, ex_atI_map, atI0, atI1, atI2, kit1, kit2, kit3, kit4, kit5, kit6, kit7, kit8, kit9, kit10, kit11, kit12, kit13, kit14, kit15, kit16, kit17, kit18, kit19, kit20, kit21, kit22, kit23, kit24, kit25, kit26, kit27, kit28, kit29, kit30, kit31, kit32, kit33, kit34, kit35, sizeLine_eq, true_and, and_true, exists_eq_left', Option.some.injEq, List.map_cons, List.map_nil, List.length_cons, List.length_nil, List.length_map, List.length_append, List.cons_append, List.nil_append, List.set_cons_zero, List.set_cons_succ, List.getElem?_cons_zero, List.getElem?_cons_succ, List.getElem?_nil, Nat.reduceSub, Nat.reduceAdd, Nat.zero_add, Nat.sub_self, List.replicate_succ, List.replicate_zero, Bool.false_bne, Bool.true_bne, Bool.false_xor, Bool.true_xor, Bool.not_true, Bool.not_false, Bool.not_not, beq_self_eq_true, Bool.and_true, Bool.true_and, nl, nls, decide_true, decide_false, exists_eq_left, Bool.false_eq_true, Option.some_inj, Int.reduceToNat, Int.reducePow, Int.reduceMul, Int.reduceSub, Int.reduceAdd, Int.reduceNeg, Nat.reducePow, Nat.reduceLeDiff, Int.reduceLE, Int.reduceLT, Int.reduceAbs, Int.natAbs_neg, Nat.reduceLT, divW_eq, mulW_eq, Bool.or_true, Bool.true_or, cut_map, ← List.map_append, ← List.map_reverse, castN, eq_self, Int.reduceEq, deqC, deq_self, rep_map, nls_dP, wsAugIx, tx_cps, tx_len, tx_app, tx_one, tx_nil, tx_cut, tx_signs, tx_rep, lit_empty, tx_inj, wJoin, gJoin, wmCall, wmOpL, wmOpR, wmIxR, wmTup2, wsSetM, wsAppM, wForM, gSum, gAny, gAll, gLtD, gInT, gSorted, gAddT, wThaw, gMaxL, wIsE, wIsV, wCallE, wTry, DEnds.off, gInB, wDct0, wCntB, wIdxB, wTryF, wIdxS, gInX, gIns, gTup, wDct1, gEqR, wsSetG, wgd0, wgdC, wLck, wDctL, wGetD, dctOf, wsSetKey, wItems, wSortI, wsCallMD, endsMD, endMD, startMD, gGtS, wsSetV]
      refine Br.d (fun h1 => ?_) (fun h1 => ?_)
      · walk_at "s"
        refine ⟨cell, k, rfl, hk0.1, by omega, ?_⟩
        walk_at "s"
        refine fin _ ?_
        unfold lawVal
        rw [if_pos (.inl h1)]
      walk_at "s"
      refine Br.d (fun h2 => ?_) (fun h2 => ?_)
      · walk_at "s"
        refine Br.d (fun h3 => ?_) (fun h3 => ?_)
        · walk_at "s"
          refine ⟨cell, k, rfl, hk0.1, by omega, ?_⟩
          walk_at "s"
          refine fin _ ?_
          unfold lawVal
          rw [if_pos (.inr ⟨h2, h3⟩)]
        · walk_at "s"
          refine fin _ ?_
          unfold lawVal
          rw [if_neg (fun z => z.elim h1 fun z => h3 z.2)]
      · walk_at "s"
        refine fin _ ?_
        unfold lawVal
        rw [if_neg (fun z => z.elim h1 fun z => h2 z.1)]
    · refine ⟨rfl, by rw [rng_len]; simp; omega, fun k hk => ?_⟩
      obtain ⟨i, hi, e⟩ := mem_rng hk
      omega
/-- some good cord of at most so many pieces -/
def SP_law_cord : Spec := fun ds _ R => ∃ (ns : List Int) (i j m : Int), ds = [.scr ns, .int i, .int j, .int m] ∧ ns.length ≤ 63 ∧ 0 ≤ i ∧ i ≤ 1000 ∧ 0 ≤ j ∧ j ≤ 1000 ∧ 0 ≤ m ∧ m ≤ 1000 ∧ ∀ c : List Pc, c.length ≤ m → Gds (10 ^ 30) c → R (.val (dC c))
theorem len_law_cord (ds : List D) (x : XS) (R : Rt → Prop) (h : SP_law_cord ds x R) : ds.length = ["_law_script", "_law_first", "_law_last", "_law_most"].length := by
  obtain ⟨ns, i, j, m, rfl, _⟩ := h; rfl
def W_law_cord : WS :=
  (wSeqS (wsSet 4 (wNew (wLst wNil)))
  (wSeqS (wFor (wSeq (wOp gAdd (wNew (wLst (wCons (wCall SP_law_at (wCons (wVar 0) (wCons (wVar 1) wNil))) wNil))) (wSl (wVar 0) (woSome (wOp gAdd (wVar 1) (wC (.int 1)))) (woSome (wVar 2))))) (wgName 5)
  (wSeqS (wsSet 6 (wOp (gInt (fun _ j => 0 < j) fun i j => i % j) (wOp (gInt CDivW fun i j => i / j) (wVar 5) (wC (.int 5))) (wOp gAdd (wB gLen (wCons (wVar 4) wNil)) (wC (.int 1)))))
  (wSeqS (wIfS (wtOn (wOp (gEq false) (wOp (gInt (fun _ j => 0 < j) fun i j => i % j) (wVar 5) (wC (.int 5))) (wC (.int 3))))
  (wsSet 4 (wOp gAdd (wVar 4) (wCall SP_law_contrary (wCons (wSl (wVar 4) (woSome (wVar 6)) woNone) wNil))))
  (wIfS (wtOn (wOp (gEq false) (wOp (gInt (fun _ j => 0 < j) fun i j => i % j) (wVar 5) (wC (.int 5))) (wC (.int 4))))
  (wSeqS (wsSet 7 (wCall SP_law_pieces (wCons (wOp (gInt CDivW fun i j => i / j) (wVar 5) (wC (.int 5))) wNil)))
  (wSeqS (wsSet 7 (wOp gAdd (wVar 7) (wCall SP_law_contrary (wCons (wVar 7) wNil))))
  (wsSet 4 (wOp gAdd (wOp gAdd (wSl (wVar 4) woNone (woSome (wVar 6))) (wVar 7)) (wSl (wVar 4) (woSome (wVar 6)) woNone)))))
  (wsSet 4 (wOp gAdd (wVar 4) (wCall SP_law_pieces (wCons (wVar 5) wNil))))))
  (wsSet 4 (wSl (wVar 4) woNone (woSome (wVar 3)))))))
  (wsRet (wVar 4))))
theorem pure_law_cord (ds : List D) (x : XS) (R : Rt → Prop) (h : SP_law_cord ds x R) : W_law_cord (endsOf R x) (startE 8 ds) := by
  obtain ⟨ns, i, j, m, rfl, hn, hi, hi2, hj, hj2, hm, hm2, q⟩ := h
  simp only [W_law_cord, wVar, wOwn, wC, wOp, onBl, wtOn, wChain, trD, wtVal, wtNot, wAnd, wOr, wAndV, wOrV, wNotV, wIf, wNil, wCons, wTup, wLst, wUn, wNew, gAdd, gInt, gInt0, gMul, gCatF, gRepF, wOpF, gEq, gCmp, gInS, gIsN, isN, gIsB, gIdx, woNone, woSome, gSl, wSl, gSlF, wSlF, wB, wBF, gLen, gInt1, gInt2, gToInt, gListF, tyName, gIsT, wIsT, wCall, Rt.d, Cn.d, onNew, wCallF, wCallN, wCallNF, nlR, wgName, wgNil, wgCons, wgTup, wSeq, wSeqT, wSigns, wRng1, wRng2, wRng3, wRev, wEnum, wZip, wLc, wtYes, wsNil, wsBrk, wsCnt, wsExpr, wsRet, wsRetF, wsRetOwn, wsRetN, wIfS, wsSet, wsSetF, wsAsg, wsPar, wsAug, gApp, gExt, gPop0, gRev, wMut, wsSetIx, wFor, wsRaise, wSeqS, wFrz, wsCallM, wsPopAdd, endsOf, endM, endsM, startM, startE, wipeE, smallI, CPow, Br_true, Br_false, Br_not, rngD_eq, dC, dP, dI, ex_atI_map, atI0, atI1, atI2, kit1, kit2, kit3, kit4, kit5, kit6, kit7, kit8, kit9, kit10, kit11, kit12, kit13, kit14, kit15, kit16, kit17, kit18, kit19, kit20, kit21, kit22, kit23, kit24, kit25, kit26, kit27, kit28, kit29, kit30, kit31, kit32, kit33, kit34, kit35, sizeLine_eq, true_and, and_true, exists_eq_left', Option.some.injEq, List.map_cons, List.map_nil, List.length_cons, List.length_nil, List.length_map, List.length_append, List.cons_append, List.nil_append, List.set_cons_zero, List.set_cons_succ, List.getElem?_cons_zero, List.getElem?_cons_succ, List.getElem?_nil, Nat.reduceSub, Nat.reduceAdd, Nat.zero_add, Nat.sub_self, List.replicate_succ, List.replicate_zero, Bool.false_bne, Bool.true_bne, Bool.false_xor, Bool.true_xor, Bool.not_true, Bool.not_false, Bool.not_not, beq_self_eq_true, Bool.and_true, Bool.true_and, nl, nls, decide_true, decide_false, exists_eq_left, Bool.false_eq_true, Option.some_inj, Int.reduceToNat, Int.reducePow, Int.reduceMul, Int.reduceSub, Int.reduceAdd, Int.reduceNeg, Nat.reducePow, Nat.reduceLeDiff, Int.reduceLE, Int.reduceLT, Int.reduceAbs, Int.natAbs_neg, Nat.reduceLT, divW_eq, mulW_eq, Bool.or_true, Bool.true_or, cut_map, ← List.map_append, ← List.map_reverse, castN, eq_self, Int.reduceEq, deqC, deq_self, rep_map, nls_dP, wsAugIx, tx_cps, tx_len, tx_app, tx_one, tx_nil, tx_cut, tx_signs, tx_rep, lit_empty, tx_inj, wJoin, gJoin, wmCall, wmOpL, wmOpR, wmIxR, wmTup2, wsSetM, wsAppM, wForM, gSum, gAny, gAll, gLtD, gInT, gSorted, gAddT, wThaw, gMaxL, wIsE, wIsV, wCallE, wTry, DEnds.off, gInB, wDct0, wCntB, wIdxB, wTryF, wIdxS, gInX, gIns, gTup, wDct1, gEqR, wsSetG, wgd0, wgdC, wLck, wDctL, wGetD, dctOf, wsSetKey, wItems, wSortI, wsCallMD, endsMD, endMD, startMD, gGtS, wsSetV]
  refine ⟨ns, i, rfl, hi, ?_⟩
  walk_at "s"
  have hcut : (cut ns (some (i + 1)) (some j)).length ≤ ns.length := cut_len
  refine ⟨by omega, ?_⟩
  rw [← List.map_cons]
  refine loop_ind (S := List Pc × Sl × Sl × Sl) D.int (fun s => [.fz (.scr ns), .fz (.int i), .fz (.int j), .fz (.int m), .fz (.lst (s.1.map dP)), s.2.1, s.2.2.1, s.2.2.2])
    (fun _ s => s.1.length ≤ m ∧ Gds (10 ^ 30) s.1) ?_ ?_ _ ([], .un, .un, .un) ⟨by simpa using hm, .nil⟩
  · rintro ⟨c, s5, s6, s7⟩ ⟨h1, h2⟩
    walk_at "s"
    exact q c h1 h2
  · rintro k r ⟨c, s5, s6, s7⟩ L ⟨h1, h2⟩ ih
    simp only at h1 h2
    have fin : ∀ (d : List Pc) s5 s6 s7, Gds (10 ^ 30) d → L [.fz (.scr ns), .fz (.int i), .fz (.int j), .fz (.int m), .fz (.lst ((d.take m.toNat).map dP)), s5, s6, s7] := fun d s5 s6 s7 hd =>
      ih (d.take m.toNat, s5, s6, s7) ⟨by simp only [List.length_take]; omega, hd.sub fun p hp => List.mem_of_mem_take hp⟩
    have lp := fun x => lawPieces_len x
    have gp := fun x => lawPieces_gd x
    have a0 : 0 ≤ k / 5 % ((c.length : Int) + 1) := Int.emod_nonneg _ (by omega)
    have a1 : k / 5 % ((c.length : Int) + 1) < (c.length : Int) + 1 := Int.emod_lt_of_pos _ (by omega)
    walk_at "s"
    refine ⟨by omega, ?_⟩
    have hc1 : (cut c (some (k / 5 % ((c.length : Int) + 1))) none).length ≤ c.length := cut_len
    have hc2 : (cut c none (some (k / 5 % ((c.length : Int) + 1)))).length ≤ c.length := cut_len
    have g1 : Gds (10 ^ 30) (cut c (some (k / 5 % ((c.length : Int) + 1))) none) := h2.sub fun p hp => cut_mem hp
    have g2 : Gds (10 ^ 30) (cut c none (some (k / 5 % ((c.length : Int) + 1)))) := h2.sub fun p hp => cut_mem hp
    have mm : ∀ d : List Pc, cut d none (some m) = d.take m.toNat := fun d => cut_to hm
    refine Br.d (fun h3 => ?_) (fun h3 => ?_)
    · walk_at "s"
      generalize k / 5 % ((c.length : Int) + 1) = a at g1 hc1 ⊢
      refine ⟨cut c (some a) none, rfl, by omega, ?_⟩
      walk_at "s"
      have := con_len (cut c (some a) none)
      refine ⟨by omega, ?_⟩
      rw [mm]
      exact fin _ _ _ _ (h2.app (con_gd g1))
    · walk_at "s"
      refine Br.d (fun h4 => ?_) (fun h4 => ?_)
      · walk_at "s"
        refine ⟨k / 5, rfl, ?_⟩
        have b1 := lp (k / 5)
        have b2 := con_len (lawPieces (k / 5))
        walk_at "s"
        refine ⟨lawPieces (k / 5), rfl, by omega, ?_⟩
        walk_at "s"
        rw [mm]
        refine ⟨by omega, by omega, by omega, ?_⟩
        generalize k / 5 % ((c.length : Int) + 1) = a at g1 g2 ⊢
        exact fin _ _ _ _ ((g2.app ((gp _).app (con_gd (gp _)))).app g1)
      · walk_at "s"
        refine ⟨k, rfl, ?_⟩
        have b1 := lp k
        walk_at "s"
        refine ⟨by omega, ?_⟩
        rw [mm]
        exact fin _ _ _ _ (h2.app (gp _))
def SP_law_more : Spec := fun ds _ R => ∃ (L : List (List Nat)) (l : List Nat), ds = [.lst (L.map dW), .lst (l.map fun c => .str (tx [c]))] ∧ L.length * l.length ≤ 10000000 ∧ (∀ w ∈ L, w.length ≤ 1000) ∧ R (.new (.lst ((L.flatMap fun w => l.map fun c => w ++ [c]).map dW)))
theorem len_law_more (ds : List D) (x : XS) (R : Rt → Prop) (h : SP_law_more ds x R) : ds.length = ["_law_rows", "_law_nails"].length := by
  obtain ⟨L, l, rfl, _⟩ := h; rfl
def W_law_more : WS :=
  (wSeqS (wsSetF 2 (wLst wNil))
  (wSeqS (wFor (wSeq (wVar 0)) (wgName 3)
  (wFor (wSeq (wVar 1)) (wgName 4)
  (wMut 2 gApp (wCons (wOp gAdd (wVar 3) (wVar 4)) wNil))))
  (wsRetOwn 2)))
theorem pure_law_more (ds : List D) (x : XS) (R : Rt → Prop) (h : SP_law_more ds x R) : W_law_more (endsOf R x) (startE 5 ds) := by
  obtain ⟨L, l, rfl, hl, hw, q⟩ := h
  simp only [W_law_more, wVar, wOwn, wC, wOp, onBl, wtOn, wChain, trD, wtVal, wtNot, wAnd, wOr, wAndV, wOrV, wNotV, wIf, wNil, wCons, wTup, wLst, wUn, wNew, gAdd, gInt, gInt0, gMul, gCatF, gRepF, wOpF, gEq, gCmp, gInS, gIsN, isN, gIsB, gIdx, woNone, woSome, gSl, wSl, gSlF, wSlF, wB, wBF, gLen, gInt1, gInt2, gToInt, gListF, tyName, gIsT, wIsT, wCall, Rt.d, Cn.d, onNew, wCallF, wCallN, wCallNF, nlR, wgName, wgNil, wgCons, wgTup, wSeq, wSeqT, wSigns, wRng1, wRng2, wRng3, wRev, wEnum, wZip, wLc, wtYes, wsNil, wsBrk, wsCnt, wsExpr, wsRet, wsRetF, wsRetOwn, wsRetN, wIfS, wsSet, wsSetF, wsAsg, wsPar, wsAug, gApp, gExt, gPop0, gRev, wMut, wsSetIx, wFor, wsRaise, wSeqS, wFrz, wsCallM, wsPopAdd, endsOf, endM, endsM, startM, startE, wipeE, smallI, CPow, Br_true, Br_false, Br_not, rngD_eq, dC, dP, dI, ex_atI_map, atI0, atI1, atI2, kit1, kit2, kit3, kit4, kit5, kit6, kit7, kit8, kit9, kit10, kit11, kit12, kit13, kit14, kit15, kit16, kit17, kit18, kit19, kit20, kit21, kit22, kit23, kit24, kit25, kit26, kit27, kit28, kit29, kit30, kit31, kit32, kit33, kit34, kit35, sizeLine_eq, true_and, and_true, exists_eq_left', Option.some.injEq, List.map_cons, List.map_nil, List.length_cons, List.length_nil, List.length_map, List.length_append, List.cons_append, List.nil_append, List.set_cons_zero, List.set_cons_succ, List.getElem?_cons_zero, List.getElem?_cons_succ, List.getElem?_nil, Nat.reduceSub, Nat.reduceAdd, Nat.zero_add, Nat.sub_self, List.replicate_succ, List.replicate_zero, Bool.false_bne, Bool.true_bne, Bool.false_xor, Bool.true_xor, Bool.not_true, Bool.not_false, Bool.not_not, beq_self_eq_true, Bool.and_true, Bool.true_and, nl, nls, decide_true, decide_false, exists_eq_left, Bool.false_eq_true, Option.some_inj, Int.reduceToNat, Int.reducePow, Int.reduceMul, Int.reduceSub, Int.reduceAdd, Int.reduceNeg, Nat.reducePow, Nat.reduceLeDiff, Int.reduceLE, Int.reduceLT, Int.reduceAbs, Int.natAbs_neg, Nat.reduceLT, divW_eq, mulW_eq, Bool.or_true, Bool.true_or, cut_map, ← List.map_append, ← List.map_reverse, castN, eq_self, Int.reduceEq, deqC, deq_self, rep_map, nls_dP, wsAugIx, tx_cps, tx_len, tx_app, tx_one, tx_nil, tx_cut, tx_signs, tx_rep, lit_empty, tx_inj, wJoin, gJoin, wmCall, wmOpL, wmOpR, wmIxR, wmTup2, wsSetM, wsAppM, wForM, gSum, gAny, gAll, gLtD, gInT, gSorted, gAddT, wThaw, gMaxL, wIsE, wIsV, wCallE, wTry, DEnds.off, gInB, wDct0, wCntB, wIdxB, wTryF, wIdxS, gInX, gIns, gTup, wDct1, gEqR, wsSetG, wgd0, wgdC, wLck, wDctL, wGetD, dctOf, wsSetKey, wItems, wSortI, wsCallMD, endsMD, endMD, startMD, gGtS, wsSetV]
  refine loop_ind (S := List (List Nat) × Sl × Sl) dW (fun s => [.fz (.lst (L.map dW)), .fz (.lst (l.map fun c => .str (tx [c]))), .own false (.lst (s.1.map dW)), s.2.1, s.2.2])
    (fun r s => s.1 ++ (r.flatMap fun w => l.map fun c => w ++ [c]) = (L.flatMap fun w => l.map fun c => w ++ [c]) ∧ s.1.length + r.length * l.length ≤ 10000000 ∧ ∀ w ∈ r, w.length ≤ 1000) ?_ ?_ _ ([], .un, .un) ⟨rfl, by simpa using hl, hw⟩
  · rintro ⟨f, s3, s4⟩ ⟨h1, _⟩
    have h1 : f = L.flatMap fun w => l.map fun c => w ++ [c] := by simpa using h1
    subst h1
    walk_at "s"
    exact q
  · rintro w r ⟨f, s3, s4⟩ K ⟨h1, h2, h3⟩ ih
    have hlw := h3 w (List.mem_cons_self ..)
    simp only [List.flatMap_cons, List.length_cons] at h1 h2
    rw [Nat.succ_mul] at h2
    simp only [dW]
    walk_at "s"
    refine loop_ind (S := List (List Nat) × Sl) (fun c : Nat => D.str (tx [c])) (fun s => [.fz (.lst (L.map dW)), .fz (.lst (l.map fun c => .str (tx [c]))), .own false (.lst (s.1.map dW)), .fz (.str (tx w)), s.2])
      (fun k s => s.1 ++ (k.map fun c => w ++ [c]) = f ++ (l.map fun c => w ++ [c]) ∧ s.1.length + k.length ≤ 10000000) ?_ ?_ _ (f, s4) ⟨rfl, by simp only; omega⟩
    · rintro ⟨g, s4⟩ ⟨g1, _⟩
      have g1 : g = f ++ l.map fun c => w ++ [c] := by simpa using g1
      subst g1
      walk_at "s"
      exact ih (f ++ l.map fun c => w ++ [c], _, s4) ⟨by simp only; rw [← h1, List.append_assoc], by simp only [List.length_append, List.length_map]; omega, fun u hu => h3 u (List.mem_cons_of_mem _ hu)⟩
    · rintro c k ⟨g, s4⟩ K2 ⟨g1, g2⟩ ih2
      simp only [List.map_cons, List.length_cons] at g1 g2
      walk_at "s"
      refine ⟨by omega, by omega, ?_⟩
      have := ih2 (g ++ [w ++ [c]], .fz (.str (tx [c]))) ⟨by simp only; rw [← g1]; simp, by simp only [List.length_append, List.length_cons, List.length_nil]; omega⟩
      simpa [dW] using this
def SP_law_chosen : Spec := fun ds _ R => ∃ (t : Int) (m : Nat), ds = [.int t, .int m] ∧ t.natAbs ≤ 2 ^ 120 ∧ m ≤ 64 ∧ R (.val (.int (ch t m)))
theorem len_law_chosen (ds : List D) (x : XS) (R : Rt → Prop) (h : SP_law_chosen ds x R) : ds.length = ["_law_turns", "_law_many"].length := by
  obtain ⟨t, m, rfl, _⟩ := h; rfl
def W_law_chosen : WS :=
  (wSeqS (wsSet 2 (wC (.int 1)))
  (wSeqS (wsSet 3 (wC (.int 1)))
  (wSeqS (wFor (wRng1 (wVar 1)) (wgName 4)
  (wSeqS (wsSet 2 (wOp gMul (wVar 2) (wOp (gInt0 fun i j => i - j) (wVar 0) (wVar 4))))
  (wsSet 3 (wOp gMul (wVar 3) (wOp gAdd (wVar 4) (wC (.int 1)))))))
  (wsRet (wOp (gInt CDivW fun i j => i / j) (wVar 2) (wVar 3))))))
theorem pure_law_chosen (ds : List D) (x : XS) (R : Rt → Prop) (h : SP_law_chosen ds x R) : W_law_chosen (endsOf R x) (startE 5 ds) := by
  obtain ⟨t, m, rfl, ht, hm, q⟩ := h
  simp only [W_law_chosen, wVar, wOwn, wC, wOp, onBl, wtOn, wChain, trD, wtVal, wtNot, wAnd, wOr, wAndV, wOrV, wNotV, wIf, wNil, wCons, wTup, wLst, wUn, wNew, gAdd, gInt, gInt0, gMul, gCatF, gRepF, wOpF, gEq, gCmp, gInS, gIsN, isN, gIsB, gIdx, woNone, woSome, gSl, wSl, gSlF, wSlF, wB, wBF, gLen, gInt1, gInt2, gToInt, gListF, tyName, gIsT, wIsT, wCall, Rt.d, Cn.d, onNew, wCallF, wCallN, wCallNF, nlR, wgName, wgNil, wgCons, wgTup, wSeq, wSeqT, wSigns, wRng1, wRng2, wRng3, wRev, wEnum, wZip, wLc, wtYes, wsNil, wsBrk, wsCnt, wsExpr, wsRet, wsRetF, wsRetOwn, wsRetN, wIfS, wsSet, wsSetF, wsAsg, wsPar, wsAug, gApp, gExt, gPop0, gRev, wMut, wsSetIx, wFor, wsRaise, wSeqS, wFrz, wsCallM, wsPopAdd, endsOf, endM, endsM, startM, startE, wipeE, smallI, CPow, Br_true, Br_false, Br_not, rngD_eq, dC, dP, dI, ex_atI_map, atI0, atI1, atI2, kit1, kit2, kit3, kit4, kit5, kit6, kit7, kit8, kit9, kit10, kit11, kit12, kit13, kit14, kit15, kit16, kit17, kit18, kit19, kit20, kit21, kit22, kit23, kit24, kit25, kit26, kit27, kit28, kit29, kit30, kit31, kit32, kit33, kit34, kit35, sizeLine_eq, true_and, and_true, exists_eq_left', Option.some.injEq, List.map_cons, List.map_nil, List.length_cons, List.length_nil, List.length_map, List.length_append, List.cons_append, List.nil_append, List.set_cons_zero, List.set_cons_succ, List.getElem?_cons_zero, List.getElem?_cons_succ, List.getElem?_nil, Nat.reduceSub, Nat.reduceAdd, Nat.zero_add, Nat.sub_self, List.replicate_succ, List.replicate_zero, Bool.false_bne, Bool.true_bne, Bool.false_xor, Bool.true_xor, Bool.not_true, Bool.not_false, Bool.not_not, beq_self_eq_true, Bool.and_true, Bool.true_and, nl, nls, decide_true, decide_false, exists_eq_left, Bool.false_eq_true, Option.some_inj, Int.reduceToNat, Int.reducePow, Int.reduceMul, Int.reduceSub, Int.reduceAdd, Int.reduceNeg, Nat.reducePow, Nat.reduceLeDiff, Int.reduceLE, Int.reduceLT, Int.reduceAbs, Int.natAbs_neg, Nat.reduceLT, divW_eq, mulW_eq, Bool.or_true, Bool.true_or, cut_map, ← List.map_append, ← List.map_reverse, castN, eq_self, Int.reduceEq, deqC, deq_self, rep_map, nls_dP, wsAugIx, tx_cps, tx_len, tx_app, tx_one, tx_nil, tx_cut, tx_signs, tx_rep, lit_empty, tx_inj, wJoin, gJoin, wmCall, wmOpL, wmOpR, wmIxR, wmTup2, wsSetM, wsAppM, wForM, gSum, gAny, gAll, gLtD, gInT, gSorted, gAddT, wThaw, gMaxL, wIsE, wIsV, wCallE, wTry, DEnds.off, gInB, wDct0, wCntB, wIdxB, wTryF, wIdxS, gInX, gIns, gTup, wDct1, gEqR, wsSetG, wgd0, wgdC, wLck, wDctL, wGetD, dctOf, wsSetKey, wItems, wSortI, wsCallMD, endsMD, endMD, startMD, gGtS, wsSetV]
  refine ⟨by omega, ?_⟩
  rw [rng1, List.map_map, Int.toNat_natCast]
  refine loop_ind (S := Nat × Sl) (fun i : Nat => D.int i) (fun s => [.fz (.int t), .fz (.int m), .fz (.int (fal t s.1)), .fz (.int (fac s.1)), s.2])
    (fun r s => r = (List.range m).drop s.1 ∧ s.1 ≤ m) ?_ ?_ _ (0, .un) ⟨rfl, Nat.zero_le _⟩
  · rintro ⟨i, s3⟩ ⟨h1, h2⟩
    walk_at "s"
    have : m ≤ i := by
      have := congrArg List.length h1
      simp at this
      omega
    have : i = m := by simp only at h2; omega
    subst this
    refine ⟨⟨fac_pos i, ?_⟩, q⟩
    have := log2_lt (n := 7 * i) (Nat.lt_of_le_of_lt (fac_bd i hm) (Nat.pow_lt_pow_right (by decide) (by omega)))
    omega
  · rintro k r ⟨i, s3⟩ L ⟨h1, h2⟩ ih
    simp only at h1 h2
    have hlt : i < m := by
      have := congrArg List.length h1
      simp at this
      omega
    have e : (List.range m).drop i = i :: (List.range m).drop (i + 1) := by
      rw [List.drop_eq_getElem_cons (by simpa using hlt)]
      simp
    rw [e] at h1
    obtain ⟨rfl, rfl⟩ := List.cons.inj h1
    walk_at "s"
    refine ⟨mul_le (fal_bd ht k (by omega)) (step_bd ht (by omega)) (by omega), mul_le (b := 7) (fac_bd k (by omega)) (Nat.le_trans (by omega) (by decide : 128 ≤ 2 ^ 7)) (by omega), ?_⟩
    exact ih (k + 1, _) ⟨rfl, hlt⟩
def SP_law_times : Spec := fun ds _ R => ∃ (l : List Nat) (c : List Pc) (M : Nat), ds = [.str (tx l), dC c] ∧ l.length ≤ 100000 ∧ M ≤ 64 ∧ RL M l.reverse ∧ c.length * (121 * M + 7) ≤ 900000 ∧ Tb c ∧ R (.val (.int (wy c l)))
theorem len_law_times (ds : List D) (x : XS) (R : Rt → Prop) (h : SP_law_times ds x R) : ds.length = ["_law_row", "_law_cord_here"].length := by
  obtain ⟨t, m, M, rfl, _⟩ := h; rfl
def W_law_times : WS :=
  (wSeqS (wsSet 2 (wOp gAdd (wNew (wLst (wCons (wC (.int 1)) wNil))) (wOp gMul (wNew (wLst (wCons (wC (.int 0)) wNil))) (wB gLen (wCons (wVar 0) wNil)))))
  (wSeqS (wFor (wSeq (wVar 1)) (wgTup 2 (wgCons (wgName 3) (wgCons (wgName 4) wgNil)))
  (wSeqS (wsSetF 5 (wBF gListF (wCons (wVar 2) wNil)))
  (wSeqS (wFor (wRng2 (wC (.int 1)) (wOp gAdd (wB gLen (wCons (wVar 0) wNil)) (wC (.int 1)))) (wgName 6)
  (wSeqS (wsSet 7 (wC (.int 1)))
  (wWhile (wAnd (wtOn (wOp (gCmp fun i j => decide (i ≤ j)) (wVar 7) (wVar 6))) (wtOn (wOp (gEq false) (wOp gIdx (wVar 0) (wOp (gInt0 fun i j => i - j) (wVar 6) (wVar 7))) (wVar 3))))
  (wSeqS (wsSet 8 (wCall SP_law_chosen (wCons (wVar 4) (wCons (wVar 7) wNil))))
  (wSeqS (wsSetIx 5 (wOp gAdd (wOp gIdx (wOwn 5) (wVar 6)) (wOp gMul (wOp gIdx (wVar 2) (wOp (gInt0 fun i j => i - j) (wVar 6) (wVar 7))) (wVar 8))) (wVar 6))
  (wsSet 7 (wOp gAdd (wVar 7) (wC (.int 1)))))))))
  (wFrz 5 (wsSet 2 (wVar 5))))))
  (wsRet (wOp gIdx (wVar 2) (wB gLen (wCons (wVar 0) wNil))))))
theorem pure_law_times (ds : List D) (x : XS) (R : Rt → Prop) (h : SP_law_times ds x R) : W_law_times (endsOf R x) (startE 9 ds) := by
  obtain ⟨l, c, M, rfl, hl, hM, hr, hb, ht, q⟩ := h
  simp only [W_law_times, wVar, wOwn, wC, wOp, onBl, wtOn, wChain, trD, wtVal, wtNot, wAnd, wOr, wAndV, wOrV, wNotV, wIf, wNil, wCons, wTup, wLst, wUn, wNew, gAdd, gInt, gInt0, gMul, gCatF, gRepF, wOpF, gEq, gCmp, gInS, gIsN, isN, gIsB, gIdx, woNone, woSome, gSl, wSl, gSlF, wSlF, wB, wBF, gLen, gInt1, gInt2, gToInt, gListF, tyName, gIsT, wIsT, wCall, Rt.d, Cn.d, onNew, wCallF, wCallN, wCallNF, nlR, wgName, wgNil, wgCons, wgTup, wSeq, wSeqT, wSigns, wRng1, wRng2, wRng3, wRev, wEnum, wZip, wLc, wtYes, wsNil, wsBrk, wsCnt, wsExpr, wsRet, wsRetF, wsRetOwn, wsRetN, wIfS, wsSet, wsSetF, wsAsg, wsPar, wsAug, gApp, gExt, gPop0, gRev, wMut, wsSetIx, wFor, wsRaise, wSeqS, wFrz, wsCallM, wsPopAdd, endsOf, endM, endsM, startM, startE, wipeE, smallI, CPow, Br_true, Br_false, Br_not, rngD_eq, dC, dP, dI, ex_atI_map, atI0, atI1, atI2, kit1, kit2, kit3, kit4, kit5, kit6, kit7, kit8, kit9, kit10, kit11, kit12, kit13, kit14, kit15, kit16, kit17, kit18, kit19, kit20, kit21, kit22, kit23, kit24, kit25, kit26, kit27, kit28, kit29, kit30, kit31, kit32, kit33, kit34, kit35, sizeLine_eq, true_and, and_true, exists_eq_left', Option.some.injEq, List.map_cons, List.map_nil, List.length_cons, List.length_nil, List.length_map, List.length_append, List.cons_append, List.nil_append, List.set_cons_zero, List.set_cons_succ, List.getElem?_cons_zero, List.getElem?_cons_succ, List.getElem?_nil, Nat.reduceSub, Nat.reduceAdd, Nat.zero_add, Nat.sub_self, List.replicate_succ, List.replicate_zero, Bool.false_bne, Bool.true_bne, Bool.false_xor, Bool.true_xor, Bool.not_true, Bool.not_false, Bool.not_not, beq_self_eq_true, Bool.and_true, Bool.true_and, nl, nls, decide_true, decide_false, exists_eq_left, Bool.false_eq_true, Option.some_inj, Int.reduceToNat, Int.reducePow, Int.reduceMul, Int.reduceSub, Int.reduceAdd, Int.reduceNeg, Nat.reducePow, Nat.reduceLeDiff, Int.reduceLE, Int.reduceLT, Int.reduceAbs, Int.natAbs_neg, Nat.reduceLT, divW_eq, mulW_eq, Bool.or_true, Bool.true_or, cut_map, ← List.map_append, ← List.map_reverse, castN, eq_self, Int.reduceEq, deqC, deq_self, rep_map, nls_dP, wsAugIx, tx_cps, tx_len, tx_app, tx_one, tx_nil, tx_cut, tx_signs, tx_rep, lit_empty, tx_inj, wJoin, gJoin, wmCall, wmOpL, wmOpR, wmIxR, wmTup2, wsSetM, wsAppM, wForM, gSum, gAny, gAll, gLtD, gInT, gSorted, gAddT, wThaw, gMaxL, wIsE, wIsV, wCallE, wTry, DEnds.off, gInB, wDct0, wCntB, wIdxB, wTryF, wIdxS, gInX, gIns, gTup, wDct1, gEqR, wsSetG, wgd0, wgdC, wLck, wDctL, wGetD, dctOf, wsSetKey, wItems, wSortI, wsCallMD, endsMD, endMD, startMD, gGtS, wsSetV]
  have e0 : D.int 1 :: (List.replicate (l.length : Int).toNat [D.int 0]).flatten = (tab one0 l).map D.int := by
    rw [tab_init, Int.toNat_natCast, List.nil_append]
    congr 1
    clear hl hr q
    induction l with
    | nil => rfl
    | cons x l ih => rw [List.length_cons, List.replicate_succ, List.flatten_cons, ih]; rfl
  have le0 : (List.replicate (l.length : Int).toNat [D.int 0]).flatten.length = l.length := by
    rw [rep_len, Int.toNat_natCast]
    simp
  rw [e0, le0]
  refine ⟨by omega, ⟨by omega, by omega, by omega⟩, by omega, ?_⟩
  refine loop_ind (S := (List Nat → Int) × Nat × Sl × Sl × Sl × Sl × Sl × Sl) dP (fun s => [.fz (.str (tx l)), .fz (.lst (c.map dP)), .fz (.lst ((tab s.1 l).map D.int)), s.2.2.1, s.2.2.2.1, s.2.2.2.2.1, s.2.2.2.2.2.1, s.2.2.2.2.2.2.1, s.2.2.2.2.2.2.2])
    (fun r s => r.foldl (fun A p => stp p A) s.1 = tim c ∧ Bdd M s.2.1 s.1 ∧ s.2.1 + r.length * (121 * M + 7) ≤ 900000 ∧ Tb r) ?_ ?_ _ (one0, 0, .un, .un, .un, .un, .un, .un) ⟨rfl, one_bd, by simpa using hb, ht⟩
  · rintro ⟨A, N, s3, s4, s5, s6, s7, s8⟩ ⟨h1, _⟩
    walk_at "s"
    have ha := atI_nat (tab_at (A := A) (l := l) (Nat.le_refl _))
    refine ⟨by omega, _, ha, ?_⟩
    have e : A = tim c := h1
    rw [List.take_length, e, ← wy_tim]
    exact q
  · rintro ⟨n, t⟩ r ⟨A, N, s3, s4, s5, s6, s7, s8⟩ L ⟨h1, h2, h3, h4⟩ ih
    simp only [List.foldl_cons, List.length_cons] at h1 h2 h3
    rw [Nat.add_mul, Nat.one_mul] at h3
    have htb : t.natAbs ≤ 2 ^ 120 := h4 (n, t) (by simp)
    have hbd := stp_bd (p := (n, t)) h2 hM htb
    walk_at "s"
    refine ⟨by omega, ⟨by omega, by omega⟩, ?_⟩
    rw [show ((l.length : Int) + 1 - 1).toNat = l.length by omega]
    refine loop_ind (S := List Int × Nat × Sl × Sl × Sl) D.int (fun s => [.fz (.str (tx l)), .fz (.lst (c.map dP)), .fz (.lst ((tab A l).map D.int)), .fz (.str n), .fz (.int t), .own false (.lst (s.1.map D.int)), s.2.2.1, s.2.2.2.1, s.2.2.2.2])
      (fun ks s => ks = rng ((s.2.1 : Int) + 1) 1 (l.length - s.2.1) ∧ s.2.1 ≤ l.length ∧ s.1.length = l.length + 1 ∧ (∀ e, s.2.1 < e → e ≤ l.length → s.1[e]? = some (A (l.take e).reverse)) ∧ ∀ e, e ≤ s.2.1 → s.1[e]? = some (stp (n, t) A (l.take e).reverse)) ?_ ?_ _
      (tab A l, 0, s6, s7, s8) ⟨rfl, Nat.zero_le _, tab_len, fun e _ he => tab_at he, fun e h1 => ?_⟩
    · rintro ⟨ts, k, s6, s7, s8⟩ ⟨g1, g2, g3, g4, g5⟩
      simp only at g1 g2 g3 g4 g5
      have hk : k = l.length := by
        have := congrArg List.length g1
        rw [rng_len, List.length_nil] at this
        omega
      subst hk
      have : ts = tab (stp (n, t) A) l := tab_of g3 g5
      subst this
      walk_at "s"
      exact ih (stp (n, t) A, N + (121 * M + 7), _, _, _, _, _, _) ⟨h1, hbd, by simp only; omega, fun p hp => h4 p (by simp [hp])⟩
    · rintro a ks ⟨ts, e, s6, s7, s8⟩ L2 ⟨g1, g2, g3, g4, g5⟩ ih2
      simp only at g1 g2 g3 g4 g5
      obtain ⟨w, hw⟩ : ∃ w, l.length - e = w + 1 := by
        cases hw : l.length - e with
        | zero => rw [hw] at g1; cases g1
        | succ w => exact ⟨w, rfl⟩
      rw [hw, rng_succ] at g1
      obtain ⟨rfl, rfl⟩ := List.cons.inj g1
      have hrl : RL M (l.take (e + 1)).reverse := by
        rw [List.reverse_take]
        exact hr.drop _
      walk_at "s"
      have hlen : (l.take (e + 1)).reverse.length = e + 1 := by rw [List.length_reverse, List.length_take]; omega
      have fin : ∀ ts' : List Int, ts'.length = l.length + 1 → (∀ j, j ≤ e → ts'[j]? = some (stp (n, t) A (l.take j).reverse)) → (∀ j, e + 1 < j → j ≤ l.length → ts'[j]? = some (A (l.take j).reverse)) → ts'[e + 1]? = some (stp (n, t) A (l.take (e + 1)).reverse) → ∀ s7 s8,
          L2 [.fz (.str (tx l)), .fz (.lst (c.map dP)), .fz (.lst ((tab A l).map D.int)), .fz (.str n), .fz (.int t), .own false (.lst (ts'.map D.int)), .fz (.int ((e : Int) + 1)), s7, s8] := fun ts' z1 z2 z3 z4 s7 s8 => by
        refine ih2 (ts', e + 1, _, s7, s8) ⟨by simp only; congr 1; omega, by simp only; omega, z1, z3, fun j hj => ?_⟩
        simp only at hj
        rcases Nat.eq_or_lt_of_le hj with w | w
        · rw [w]; exact z4
        · exact z2 j (by omega)
      refine while_ind (S := List Int × Nat × Sl) (fun s => [.fz (.str (tx l)), .fz (.lst (c.map dP)), .fz (.lst ((tab A l).map D.int)), .fz (.str n), .fz (.int t), .own false (.lst (s.1.map D.int)), .fz (.int ((e : Int) + 1)), .fz (.int ((s.2.1 : Int) + 1)), s.2.2])
        (fun m s => m = e + 1 - s.2.1 ∧ s.2.1 ≤ e + 1 ∧ s.1.length = l.length + 1 ∧ (∀ j, j ≤ e → s.1[j]? = some (stp (n, t) A (l.take j).reverse)) ∧ (∀ j, e + 1 < j → j ≤ l.length → s.1[j]? = some (A (l.take j).reverse)) ∧
          s.2.1 + lead n ((l.take (e + 1)).reverse.drop s.2.1) ≤ M ∧ ∃ cur, s.1[e + 1]? = some cur ∧ cur + rs n A (ch t) s.2.1 ((l.take (e + 1)).reverse.drop s.2.1) = stp (n, t) A (l.take (e + 1)).reverse) ?_ (e + 1) (ts, 0, s8) ?_
      · rintro m ⟨ts, k, s8⟩ L3 ⟨f0, f1, f2, f3, f4, f5, cur, f6, f7⟩ ih3
        simp only at f0 f1 f2 f3 f4 f5 f6 f7
        walk_at "s"
        refine Br.d (fun hk => ?_) (fun hk => ?_)
        · have hk' : k ≤ e := by omega
          have hdrop : (l.take (e + 1)).reverse.drop k = l[e - k]'(by omega) :: (l.take (e + 1)).reverse.drop (k + 1) := by
            rw [List.drop_eq_getElem_cons (by omega)]
            congr 1
            rw [List.getElem_reverse, List.getElem_take]
            congr 1
            rw [List.length_take]
            omega
          have hrev : (l.take (e + 1)).reverse.drop (k + 1) = (l.take (e - k)).reverse := by
            rw [List.drop_reverse, List.take_take, List.length_take]
            congr 2
            omega
          have hat := atI_at (xs := l) (i := (e : Int) + 1 - ((k : Int) + 1)) (j := e - k) (by omega) (by omega)
          rw [hdrop] at f5 f7
          walk_at "s"
          refine ⟨by omega, _, hat, ?_⟩
          refine Br.d (fun hn => ?_) (fun hn => ?_)
          · walk_at "s"
            unfold NL.lead at f5
            rw [if_pos hn] at f5
            have f7' : cur + xx n A (ch t) (k + 1) ((l.take (e + 1)).reverse.drop (k + 1)) = stp (n, t) A (l.take (e + 1)).reverse := by
              rwa [rs_cons, if_pos hn] at f7
            rw [xx_rs] at f7'
            have bold : (A (l.take (e - k)).reverse).natAbs ≤ 2 ^ N := h2 _ (by rw [← hrev]; exact hrl.drop _)
            refine ⟨t, k + 1, rfl, htb, by omega, ?_⟩
            walk_at "s"
            have i1 : atI ts ((e : Int) + 1) = some cur := atI_nat (j := e + 1) f6
            have i2 : atI (tab A l) ((e : Int) + 1 - ((k : Int) + 1)) = some (A (l.take (e - k)).reverse) := by
              rw [show (e : Int) + 1 - ((k : Int) + 1) = ((e - k : Nat) : Int) by omega]
              exact atI_nat (tab_at (by omega))
            refine ⟨_, i1, _, i2, mul_le bold (ch_bd htb (m := k + 1) (by omega)) (by have := Nat.mul_le_mul_left 121 (show k + 1 ≤ 64 by omega); omega), e + 1, (show ixN ts.length ((e : Int) + 1) = some (e + 1) from ixN_at (j := e + 1) (by omega)), ?_⟩
            rw [← List.map_set]
            refine ih3 (m - 1) (ts.set (e + 1) (cur + A (l.take (e - k)).reverse * ch t (k + 1)), k + 1, _) (by omega) ⟨by simp only; omega, by simp only; omega, by simp only [List.length_set]; exact f2, fun j hj => ?_, fun j hj hj2 => ?_, ?_, cur + A (l.take (e - k)).reverse * ch t (k + 1), ?_, ?_⟩
            · simp only
              rw [List.getElem?_set_ne (by omega)]
              exact f3 j hj
            · simp only
              rw [List.getElem?_set_ne (by omega)]
              exact f4 j hj hj2
            · simp only
              omega
            · simp only
              rw [List.getElem?_set_self (by omega)]
            · simp only
              rw [← f7', hrev]
              omega
          · refine fin ts f2 f3 f4 ?_ _ _
            rw [f6]
            congr 1
            rw [rs_cons, if_neg hn] at f7
            omega
        · refine fin ts f2 f3 f4 ?_ _ _
          rw [f6]
          congr 1
          have : (l.take (e + 1)).reverse.drop k = [] := List.drop_of_length_le (by omega)
          rw [this] at f7
          simp only [rs] at f7
          omega
      · refine ⟨rfl, Nat.zero_le _, g3, g5, fun j hj hj2 => g4 j (by omega) hj2, by simpa using hrl.lead (n := n), _, g4 (e + 1) (by omega) (by omega), ?_⟩
        show _ + rs n A (ch t) 0 (l.take (e + 1)).reverse = xx n A (ch t) 0 (l.take (e + 1)).reverse
        rw [xx_rs, ch_zero, Int.mul_one]
    · simp only at h1
      have : e = 0 := by omega
      subst this
      rw [tab_at (Nat.zero_le _)]
      show some (A []) = some (A [] * ch t 0)
      rw [ch_zero, Int.mul_one]
def SP_law_due : Spec := fun ds _ R => ∃ (c : List Pc) (K : Nat), ds = [dC c, .int K] ∧ K ≤ 5 ∧ c.length ≤ 12 ∧ Nl c ∧ Tb c ∧ ∀ m, RowsOf c K m → R (.new (.lst ((srtW m).map dR)))
theorem len_law_due (ds : List D) (x : XS) (R : Rt → Prop) (h : SP_law_due ds x R) : ds.length = ["_law_cord_here", "_law_length"].length := by
  obtain ⟨c, K, rfl, _⟩ := h; rfl
/-- the nails of a cord's beginning, each once -/
structure NlsOf (l : List Nat) (c : List Pc) : Prop where
  nd : l.Nodup
  is : ∀ y, y ∈ l ↔ ∃ p ∈ c, p.1 = tx [y]
  few : l.length ≤ c.length
theorem NlsOf.nil : NlsOf [] [] := ⟨List.nodup_nil, (fun y => ⟨(fun h => by cases h), (fun h => by obtain ⟨_, h, _⟩ := h; cases h)⟩), Nat.le_refl _⟩
theorem NlsOf.had {l : List Nat} {c : List Pc} {y : Nat} {t : Int} (h : NlsOf l c) (hy : y ∈ l) : NlsOf l (c ++ [(tx [y], t)]) := by
  refine ⟨h.nd, fun z => ?_, by have := h.few; simp; omega⟩
  rw [h.is]
  constructor
  · rintro ⟨p, hp, e⟩
    exact ⟨p, List.mem_append_left _ hp, e⟩
  · rintro ⟨p, hp, e⟩
    rcases List.mem_append.mp hp with q | q
    · exact ⟨p, q, e⟩
    · rw [List.mem_singleton] at q
      subst q
      have : y = z := by simpa using tx_inj.mp e
      subst this
      exact (h.is y).mp hy
theorem NlsOf.new {l : List Nat} {c : List Pc} {y : Nat} {t : Int} (h : NlsOf l c) (hy : y ∉ l) : NlsOf (l ++ [y]) (c ++ [(tx [y], t)]) := by
  refine ⟨?_, fun z => ?_, by have := h.few; simp; omega⟩
  · rw [List.nodup_append]
    exact ⟨h.nd, by simp, fun a ha b hb z => hy (by rw [List.mem_singleton] at hb; rw [← hb, ← z]; exact ha)⟩
  · rw [List.mem_append, List.mem_singleton, h.is]
    constructor
    · rintro (⟨p, hp, e⟩ | rfl)
      · exact ⟨p, List.mem_append_left _ hp, e⟩
      · exact ⟨_, List.mem_append_right _ (List.mem_singleton.mpr rfl), rfl⟩
    · rintro ⟨p, hp, e⟩
      rcases List.mem_append.mp hp with q | q
      · exact .inl ⟨p, q, e⟩
      · rw [List.mem_singleton] at q
        subst q
        have : y = z := by simpa using tx_inj.mp e
        exact .inr this.symm
theorem hasS_one {l : List Nat} {y : Nat} : hasS (tx [y]) (l.map fun c => .str (tx [c])) = decide (y ∈ l) := by
  induction l with
  | nil => rfl
  | cons z l ih =>
    unfold hasS at ih ⊢
    rw [List.map_cons, List.any_cons, ih]
    by_cases e : z = y
    · subst e; simp
    · have : ¬ tx [z] = tx [y] := fun h => e (by simpa using tx_inj.mp h)
      simp [this, Ne.symm e]
theorem strD_one (l : List Nat) : (l.map fun c => D.str (tx [c])).all strD = true := by
  simp [strD]
theorem nls_dW (L : List (List Nat)) : nls (L.map dW) = true := by
  induction L with
  | nil => rfl
  | cons w L ih => simp [nls, dW, nl, ih]
theorem words_rows {c : List Pc} {l : List Nat} (hl : NlsOf l c) (k : Nat) : RowsOf c k (((wordsN l k).filter fun w => !decide (wy c w = 0)).map fun w => (w, wy c w)) := by
  refine ⟨List.Pairwise.map _ (fun a b hab z => hab (Prod.mk.inj z).1) ((wordsN_nodup hl.nd k).filter _), fun p => ?_⟩
  rw [List.mem_map]
  constructor
  · rintro ⟨w, hw, rfl⟩
    rw [List.mem_filter, mem_wordsN] at hw
    obtain ⟨⟨h1, _⟩, h2⟩ := hw
    exact ⟨h1, rfl, by simpa using h2⟩
  · rintro ⟨h1, h2, h3⟩
    refine ⟨p.1, ?_, Prod.ext rfl h2.symm⟩
    rw [h2] at h3
    rw [List.mem_filter, mem_wordsN]
    exact ⟨⟨h1, fun y hy => (hl.is y).mpr (wy_lets h3 y hy)⟩, by simpa using h3⟩
def W_law_due : WS :=
  (wSeqS (wsSet 2 (wNew (wLst (wCons (wC (.str "")) wNil))))
  (wSeqS (wsSetF 3 (wLst wNil))
  (wSeqS (wFor (wSeq (wVar 0)) (wgTup 2 (wgCons (wgName 6) (wgCons (wgName 7) wgNil)))
  (wIfS (wtOn (wOp (gInT true) (wVar 6) (wOwn 3)))
  (wMut 3 gApp (wCons (wVar 6) wNil))
  wsNil))
  (wSeqS (wFor (wRng1 (wVar 1)) (wgName 4)
  (wsSet 2 (wCallN SP_law_more (wCons (wVar 2) (wCons (wOwn 3) wNil)))))
  (wSeqS (wsSetF 5 (wLc (wSeq (wVar 2)) (wgName 8) wtYes (wTup (wCons (wVar 8) (wCons (wCall SP_law_times (wCons (wVar 8) (wCons (wVar 0) wNil))) wNil))) [8]))
  (wFrz 5 (wsRetF (wBF gSorted (wCons (wNew (wLc (wSeq (wVar 5)) (wgName 9) (wtOn (wOp (gEq true) (wOp gIdx (wVar 9) (wC (.int 1))) (wC (.int 0)))) (wVar 9) [9])) wNil)))))))))
theorem pure_law_due (ds : List D) (x : XS) (R : Rt → Prop) (h : SP_law_due ds x R) : W_law_due (endsOf R x) (startE 10 ds) := by
  obtain ⟨c, K, rfl, hK, hc, nl, tb, q⟩ := h
  simp only [W_law_due, wVar, wOwn, wC, wOp, onBl, wtOn, wChain, trD, wtVal, wtNot, wAnd, wOr, wAndV, wOrV, wNotV, wIf, wNil, wCons, wTup, wLst, wUn, wNew, gAdd, gInt, gInt0, gMul, gCatF, gRepF, wOpF, gEq, gCmp, gInS, gIsN, isN, gIsB, gIdx, woNone, woSome, gSl, wSl, gSlF, wSlF, wB, wBF, gLen, gInt1, gInt2, gToInt, gListF, tyName, gIsT, wIsT, wCall, Rt.d, Cn.d, onNew, wCallF, wCallN, wCallNF, nlR, wgName, wgNil, wgCons, wgTup, wSeq, wSeqT, wSigns, wRng1, wRng2, wRng3, wRev, wEnum, wZip, wLc, wtYes, wsNil, wsBrk, wsCnt, wsExpr, wsRet, wsRetF, wsRetOwn, wsRetN, wIfS, wsSet, wsSetF, wsAsg, wsPar, wsAug, gApp, gExt, gPop0, gRev, wMut, wsSetIx, wFor, wsRaise, wSeqS, wFrz, wsCallM, wsPopAdd, endsOf, endM, endsM, startM, startE, wipeE, smallI, CPow, Br_true, Br_false, Br_not, rngD_eq, dC, dP, dI, ex_atI_map, atI0, atI1, atI2, kit1, kit2, kit3, kit4, kit5, kit6, kit7, kit8, kit9, kit10, kit11, kit12, kit13, kit14, kit15, kit16, kit17, kit18, kit19, kit20, kit21, kit22, kit23, kit24, kit25, kit26, kit27, kit28, kit29, kit30, kit31, kit32, kit33, kit34, kit35, sizeLine_eq, true_and, and_true, exists_eq_left', Option.some.injEq, List.map_cons, List.map_nil, List.length_cons, List.length_nil, List.length_map, List.length_append, List.cons_append, List.nil_append, List.set_cons_zero, List.set_cons_succ, List.getElem?_cons_zero, List.getElem?_cons_succ, List.getElem?_nil, Nat.reduceSub, Nat.reduceAdd, Nat.zero_add, Nat.sub_self, List.replicate_succ, List.replicate_zero, Bool.false_bne, Bool.true_bne, Bool.false_xor, Bool.true_xor, Bool.not_true, Bool.not_false, Bool.not_not, beq_self_eq_true, Bool.and_true, Bool.true_and, nl, nls, decide_true, decide_false, exists_eq_left, Bool.false_eq_true, Option.some_inj, Int.reduceToNat, Int.reducePow, Int.reduceMul, Int.reduceSub, Int.reduceAdd, Int.reduceNeg, Nat.reducePow, Nat.reduceLeDiff, Int.reduceLE, Int.reduceLT, Int.reduceAbs, Int.natAbs_neg, Nat.reduceLT, divW_eq, mulW_eq, Bool.or_true, Bool.true_or, cut_map, ← List.map_append, ← List.map_reverse, castN, eq_self, Int.reduceEq, deqC, deq_self, rep_map, nls_dP, wsAugIx, tx_cps, tx_len, tx_app, tx_one, tx_nil, tx_cut, tx_signs, tx_rep, lit_empty, tx_inj, wJoin, gJoin, wmCall, wmOpL, wmOpR, wmIxR, wmTup2, wsSetM, wsAppM, wForM, gSum, gAny, gAll, gLtD, gInT, gSorted, gAddT, wThaw, gMaxL, wIsE, wIsV, wCallE, wTry, DEnds.off, gInB, wDct0, wCntB, wIdxB, wTryF, wIdxS, gInX, gIns, gTup, wDct1, gEqR, wsSetG, wgd0, wgdC, wLck, wDctL, wGetD, dctOf, wsSetKey, wItems, wSortI, wsCallMD, endsMD, endMD, startMD, gGtS, wsSetV]
  refine loop_ind (S := List Nat × Sl × Sl) dP (fun s => [.fz (.lst (c.map dP)), .fz (.int K), .fz (.lst [.str (tx [])]), .own false (.lst (s.1.map fun c => .str (tx [c]))), .un, .un, s.2.1, s.2.2, .un, .un])
    (fun r s => Nl r ∧ ∃ c0, c0 ++ r = c ∧ NlsOf s.1 c0) ?_ ?_ _ ([], .un, .un) ⟨nl, [], rfl, NlsOf.nil⟩
  · rintro ⟨l, s6, s7⟩ ⟨_, c0, e, hl⟩
    rw [List.append_nil] at e
    subst e
    have hl : NlsOf l c0 := hl
    have few := hl.few
    have pw : ∀ k, k ≤ 5 → (wordsN l k).length ≤ 248832 := fun k hk => by
      rw [wordsN_len]
      refine Nat.le_trans (Nat.pow_le_pow_left (show l.length ≤ 12 by omega) k) (Nat.le_trans (Nat.pow_le_pow_right (by decide) hk) (by decide))
    walk_at "s"
    refine ⟨by omega, ?_⟩
    rw [Int.toNat_natCast]
    refine loop_ind (S := Nat × Sl) D.int (fun s => [.fz (.lst (c0.map dP)), .fz (.int K), .fz (.lst ((wordsN l s.1).map dW)), .own false (.lst (l.map fun c => .str (tx [c]))), s.2, .un, s6, s7, .un, .un])
      (fun ks s => s.1 + ks.length = K) ?_ ?_ _ (0, .un) (by simp [rng_len])
    · rintro ⟨k, s4⟩ hk
      have hk : k = K := by simpa using hk
      subst hk
      have pk := pw k hK
      walk_at "s"
      refine compL_map' dW (fun w => dR (w, wy c0 w)) (wordsN l k) [] (fun w hw Q' hq => ?_) (by rw [List.length_nil, sizeLine_eq]; omega) ?_
      · obtain ⟨w1, w2⟩ := (mem_wordsN k w).mp hw
        simp only [dW]
        walk_at "s"
        refine ⟨w, c0, 5, rfl, by omega, by decide, RL.of (by simp; omega), by omega, tb, ?_⟩
        walk_at "s"
        exact hq
      rw [List.nil_append]
      walk_at "s"
      refine compL_filter (fun w => dR (w, wy c0 w)) (fun w => dR (w, wy c0 w)) (fun w => !decide (wy c0 w = 0)) (wordsN l k) [] (fun w hw Q' hq => ?_) (by rw [List.length_nil, sizeLine_eq]; omega) ?_
      · simp only [dR, dP] at hq ⊢
        walk_at "s"
        exact hq _ fun Q2 h => h
      · rw [List.nil_append]
        have ro := words_rows hl k
        rw [show ((wordsN l k).filter fun w => !decide (wy c0 w = 0)).map (fun w => dR (w, wy c0 w)) = (((wordsN l k).filter fun w => !decide (wy c0 w = 0)).map fun w => (w, wy c0 w)).map dR by rw [List.map_map]; rfl, sor_dR]
        exact ⟨srt_dR (ro.lt nl), q _ ro⟩
    · rintro a ks ⟨k, s4⟩ L hk ih
      simp only [List.length_cons] at hk
      have pk := pw k (by omega)
      have pl : (wordsN l k).length * l.length ≤ 248832 * 12 := Nat.mul_le_mul pk (by omega)
      walk_at "s"
      refine ⟨wordsN l k, l, rfl, by omega, fun w hw => by have := ((mem_wordsN k w).mp hw).1; omega, ?_⟩
      walk_at "s"
      exact ⟨nls_dW _, ih (k + 1, _) (by simp only; omega)⟩
  · rintro ⟨n, t⟩ r ⟨l, s6, s7⟩ L ⟨h0, c0, e, hl⟩ ih
    obtain ⟨y, rfl, y1, y2⟩ := h0 _ (List.mem_cons_self ..)
    have hl : NlsOf l c0 := hl
    have few := hl.few
    have lc : c0.length ≤ c.length := by rw [← e]; simp
    have h0' : Nl r := fun p hp => h0 p (List.mem_cons_of_mem _ hp)
    simp only [dP]
    walk_at "s"
    refine ⟨strD_one l, ?_⟩
    rw [hasS_one]
    refine Br.d (fun hy => ?_) (fun hy => ?_)
    · exact ih (l, _, _) ⟨h0', c0 ++ [(tx [y], t)], by rw [← e]; simp, hl.had hy⟩
    · walk_at "s"
      refine ⟨by omega, ?_⟩
      have := ih (l ++ [y], .fz (.str (tx [y])), .fz (.int t)) ⟨h0', c0 ++ [(tx [y], t)], by rw [← e]; simp, hl.new hy⟩
      simpa using this
def SP_chosen : Spec := fun ds _ R => ∃ (t : Int) (m : Nat), ds = [.int t, .int m] ∧ t.natAbs ≤ 2 ^ 120 ∧ m ≤ 64 ∧ R (.val (.int (ch t m)))
theorem len_chosen (ds : List D) (x : XS) (R : Rt → Prop) (h : SP_chosen ds x R) : ds.length = ["turns", "many"].length := by
  obtain ⟨t, m, rfl, _⟩ := h; rfl
def W_chosen : WS :=
  (wSeqS (wsSet 2 (wC (.int 1)))
  (wSeqS (wFor (wRng1 (wVar 1)) (wgName 3)
  (wsSet 2 (wOp (gInt CDivW fun i j => i / j) (wOp gMul (wVar 2) (wOp (gInt0 fun i j => i - j) (wVar 0) (wVar 3))) (wOp gAdd (wVar 3) (wC (.int 1))))))
  (wsRet (wVar 2))))
theorem pure_chosen (ds : List D) (x : XS) (R : Rt → Prop) (h : SP_chosen ds x R) : W_chosen (endsOf R x) (startE 4 ds) := by
  obtain ⟨t, m, rfl, ht, hm, q⟩ := h
  simp only [W_chosen, wVar, wOwn, wC, wOp, onBl, wtOn, wChain, trD, wtVal, wtNot, wAnd, wOr, wAndV, wOrV, wNotV, wIf, wNil, wCons, wTup, wLst, wUn, wNew, gAdd, gInt, gInt0, gMul, gCatF, gRepF, wOpF, gEq, gCmp, gInS, gIsN, isN, gIsB, gIdx, woNone, woSome, gSl, wSl, gSlF, wSlF, wB, wBF, gLen, gInt1, gInt2, gToInt, gListF, tyName, gIsT, wIsT, wCall, Rt.d, Cn.d, onNew, wCallF, wCallN, wCallNF, nlR, wgName, wgNil, wgCons, wgTup, wSeq, wSeqT, wSigns, wRng1, wRng2, wRng3, wRev, wEnum, wZip, wLc, wtYes, wsNil, wsBrk, wsCnt, wsExpr, wsRet, wsRetF, wsRetOwn, wsRetN, wIfS, wsSet, wsSetF, wsAsg, wsPar, wsAug, gApp, gExt, gPop0, gRev, wMut, wsSetIx, wFor, wsRaise, wSeqS, wFrz, wsCallM, wsPopAdd, endsOf, endM, endsM, startM, startE, wipeE, smallI, CPow, Br_true, Br_false, Br_not, rngD_eq, dC, dP, dI, ex_atI_map, atI0, atI1, atI2, kit1, kit2, kit3, kit4, kit5, kit6, kit7, kit8, kit9, kit10, kit11, kit12, kit13, kit14, kit15, kit16, kit17, kit18, kit19, kit20, kit21, kit22, kit23, kit24, kit25, kit26, kit27, kit28, kit29, kit30, kit31, kit32, kit33, kit34, kit35, sizeLine_eq, true_and, and_true, exists_eq_left', Option.some.injEq, List.map_cons, List.map_nil, List.length_cons, List.length_nil, List.length_map, List.length_append, List.cons_append, List.nil_append, List.set_cons_zero, List.set_cons_succ, List.getElem?_cons_zero, List.getElem?_cons_succ, List.getElem?_nil, Nat.reduceSub, Nat.reduceAdd, Nat.zero_add, Nat.sub_self, List.replicate_succ, List.replicate_zero, Bool.false_bne, Bool.true_bne, Bool.false_xor, Bool.true_xor, Bool.not_true, Bool.not_false, Bool.not_not, beq_self_eq_true, Bool.and_true, Bool.true_and, nl, nls, decide_true, decide_false, exists_eq_left, Bool.false_eq_true, Option.some_inj, Int.reduceToNat, Int.reducePow, Int.reduceMul, Int.reduceSub, Int.reduceAdd, Int.reduceNeg, Nat.reducePow, Nat.reduceLeDiff, Int.reduceLE, Int.reduceLT, Int.reduceAbs, Int.natAbs_neg, Nat.reduceLT, divW_eq, mulW_eq, Bool.or_true, Bool.true_or, cut_map, ← List.map_append, ← List.map_reverse, castN, eq_self, Int.reduceEq, deqC, deq_self, rep_map, nls_dP, wsAugIx, tx_cps, tx_len, tx_app, tx_one, tx_nil, tx_cut, tx_signs, tx_rep, lit_empty, tx_inj, wJoin, gJoin, wmCall, wmOpL, wmOpR, wmIxR, wmTup2, wsSetM, wsAppM, wForM, gSum, gAny, gAll, gLtD, gInT, gSorted, gAddT, wThaw, gMaxL, wIsE, wIsV, wCallE, wTry, DEnds.off, gInB, wDct0, wCntB, wIdxB, wTryF, wIdxS, gInX, gIns, gTup, wDct1, gEqR, wsSetG, wgd0, wgdC, wLck, wDctL, wGetD, dctOf, wsSetKey, wItems, wSortI, wsCallMD, endsMD, endMD, startMD, gGtS, wsSetV]
  refine ⟨by omega, ?_⟩
  rw [rng1, List.map_map, Int.toNat_natCast]
  refine loop_ind (S := Nat × Sl) (fun i : Nat => D.int i) (fun s => [.fz (.int t), .fz (.int m), .fz (.int (ch t s.1)), s.2])
    (fun r s => r = (List.range m).drop s.1 ∧ s.1 ≤ m) ?_ ?_ _ (0, .un) ⟨rfl, Nat.zero_le _⟩
  · rintro ⟨i, s3⟩ ⟨h1, h2⟩
    walk_at "s"
    have : m ≤ i := by
      have := congrArg List.length h1
      simp at this
      omega
    have : i = m := by simp only at h2; omega
    subst this
    exact q
  · rintro k r ⟨i, s3⟩ L ⟨h1, h2⟩ ih
    simp only at h1 h2
    have hlt : i < m := by
      have := congrArg List.length h1
      simp at this
      omega
    have e : (List.range m).drop i = i :: (List.range m).drop (i + 1) := by
      rw [List.drop_eq_getElem_cons (by simpa using hlt)]
      simp
    rw [e] at h1
    obtain ⟨rfl, rfl⟩ := List.cons.inj h1
    walk_at "s"
    refine ⟨mul_le (ch_bd ht (by omega)) (step_bd ht (by omega)) (by omega), ?_⟩
    rw [ch_step]
    exact ⟨divWs (by omega) (by omega), ih (k + 1, _) ⟨rfl, hlt⟩⟩
def SP_longer : Spec := fun ds _ R => ∃ (m : Wm) (x : Nat) (t : Int) (K N : Nat), ds = [.dkz (kM m) (xM m), .str (tx [x]), .int t, .int K] ∧ K ≤ 5 ∧ t.natAbs ≤ 2 ^ 120 ∧ 97 ≤ x ∧ x ≤ 122 ∧ N ≤ 900000 ∧
  (keysM m).Nodup ∧ (∀ w ∈ keysM m, w.length ≤ K ∧ Lt w) ∧ (∀ w, (getM m w).natAbs ≤ 2 ^ N) ∧ ∀ m', Lng x t K m [] m' → R (.val (.dkz (kM m') (xM m')))
theorem len_longer (ds : List D) (x : XS) (R : Rt → Prop) (h : SP_longer ds x R) : ds.length = ["counts", "nail", "turns", "length"].length := by
  obtain ⟨m, y, t, K, N, rfl, _⟩ := h; rfl
theorem flat_rep (y k : Nat) : (List.replicate k [y]).flatten = List.replicate k y := by
  induction k with
  | zero => rfl
  | succ k ih => rw [List.replicate_succ, List.flatten_cons, ih, List.replicate_succ]; rfl
def W_longer : WS :=
  (wSeqS (wsSetG 4 (wgdC (wVar 0)))
  (wSeqS (wFor (wItems (wVar 0)) (wgTup 2 (wgCons (wgName 5) (wgCons (wgName 6) wgNil)))
  (wFor (wRng2 (wC (.int 1)) (wOp gAdd (wOp (gInt0 fun i j => i - j) (wVar 3) (wB gLen (wCons (wVar 5) wNil))) (wC (.int 1)))) (wgName 7)
  (wSeqS (wsSet 8 (wOp gAdd (wVar 5) (wOp gMul (wVar 1) (wVar 7))))
  (wsSetKey 4 (wOp gAdd (wGetD (wOwn 4) (wVar 8) (wC (.int 0))) (wOp gMul (wVar 6) (wCall SP_chosen (wCons (wVar 2) (wCons (wVar 7) wNil))))) (wVar 8)))))
  (wLck 4 (wsRet (wVar 4)))))
theorem pure_longer (ds : List D) (x : XS) (R : Rt → Prop) (h : SP_longer ds x R) : W_longer (endsOf R x) (startE 9 ds) := by
  obtain ⟨m, y, t, K, N, rfl, hK, ht, y1, y2, hN, nd, hk, hb, q⟩ := h
  simp only [W_longer, wVar, wOwn, wC, wOp, onBl, wtOn, wChain, trD, wtVal, wtNot, wAnd, wOr, wAndV, wOrV, wNotV, wIf, wNil, wCons, wTup, wLst, wUn, wNew, gAdd, gInt, gInt0, gMul, gCatF, gRepF, wOpF, gEq, gCmp, gInS, gIsN, isN, gIsB, gIdx, woNone, woSome, gSl, wSl, gSlF, wSlF, wB, wBF, gLen, gInt1, gInt2, gToInt, gListF, tyName, gIsT, wIsT, wCall, Rt.d, Cn.d, onNew, wCallF, wCallN, wCallNF, nlR, wgName, wgNil, wgCons, wgTup, wSeq, wSeqT, wSigns, wRng1, wRng2, wRng3, wRev, wEnum, wZip, wLc, wtYes, wsNil, wsBrk, wsCnt, wsExpr, wsRet, wsRetF, wsRetOwn, wsRetN, wIfS, wsSet, wsSetF, wsAsg, wsPar, wsAug, gApp, gExt, gPop0, gRev, wMut, wsSetIx, wFor, wsRaise, wSeqS, wFrz, wsCallM, wsPopAdd, endsOf, endM, endsM, startM, startE, wipeE, smallI, CPow, Br_true, Br_false, Br_not, rngD_eq, dC, dP, dI, ex_atI_map, atI0, atI1, atI2, kit1, kit2, kit3, kit4, kit5, kit6, kit7, kit8, kit9, kit10, kit11, kit12, kit13, kit14, kit15, kit16, kit17, kit18, kit19, kit20, kit21, kit22, kit23, kit24, kit25, kit26, kit27, kit28, kit29, kit30, kit31, kit32, kit33, kit34, kit35, sizeLine_eq, true_and, and_true, exists_eq_left', Option.some.injEq, List.map_cons, List.map_nil, List.length_cons, List.length_nil, List.length_map, List.length_append, List.cons_append, List.nil_append, List.set_cons_zero, List.set_cons_succ, List.getElem?_cons_zero, List.getElem?_cons_succ, List.getElem?_nil, Nat.reduceSub, Nat.reduceAdd, Nat.zero_add, Nat.sub_self, List.replicate_succ, List.replicate_zero, Bool.false_bne, Bool.true_bne, Bool.false_xor, Bool.true_xor, Bool.not_true, Bool.not_false, Bool.not_not, beq_self_eq_true, Bool.and_true, Bool.true_and, nl, nls, decide_true, decide_false, exists_eq_left, Bool.false_eq_true, Option.some_inj, Int.reduceToNat, Int.reducePow, Int.reduceMul, Int.reduceSub, Int.reduceAdd, Int.reduceNeg, Nat.reducePow, Nat.reduceLeDiff, Int.reduceLE, Int.reduceLT, Int.reduceAbs, Int.natAbs_neg, Nat.reduceLT, divW_eq, mulW_eq, Bool.or_true, Bool.true_or, cut_map, ← List.map_append, ← List.map_reverse, castN, eq_self, Int.reduceEq, deqC, deq_self, rep_map, nls_dP, wsAugIx, tx_cps, tx_len, tx_app, tx_one, tx_nil, tx_cut, tx_signs, tx_rep, lit_empty, tx_inj, wJoin, gJoin, wmCall, wmOpL, wmOpR, wmIxR, wmTup2, wsSetM, wsAppM, wForM, gSum, gAny, gAll, gLtD, gInT, gSorted, gAddT, wThaw, gMaxL, wIsE, wIsV, wCallE, wTry, DEnds.off, gInB, wDct0, wCntB, wIdxB, wTryF, wIdxS, gInX, gIns, gTup, wDct1, gEqR, wsSetG, wgd0, wgdC, wLck, wDctL, wGetD, dctOf, wsSetKey, wItems, wSortI, wsCallMD, endsMD, endMD, startMD, gGtS, wsSetV]
  rw [items_kM]
  refine loop_ind (S := Wm × Sl × Sl × Sl × Sl) dR (fun s => [.fz (.dkz (kM m) (xM m)), .fz (.str (tx [y])), .fz (.int t), .fz (.int K), .own false (.dct (kM s.1) (xM s.1)), s.2.1, s.2.2.1, s.2.2.2.1, s.2.2.2.2])
    (fun r s => Lng y t K m r s.1 ∧ ∀ p ∈ r, p ∈ m) ?_ ?_ _ (m, .un, .un, .un, .un) ⟨Lng.start nd fun w hw => (hk w hw).1, fun p hp => hp⟩
  · rintro ⟨f, s5, s6, s7, s8⟩ ⟨h1, _⟩
    walk_at "s"
    exact q f h1
  · rintro ⟨v, n⟩ r ⟨f, s5, s6, s7, s8⟩ L ⟨h1, h2⟩ ih
    have hv : v ∈ keysM m := List.mem_map.mpr ⟨_, h2 _ (List.mem_cons_self ..), rfl⟩
    obtain ⟨v1, v2⟩ := hk v hv
    have hn : n.natAbs ≤ 2 ^ N := by
      have := hb v
      rwa [getM_mem nd (h2 _ (List.mem_cons_self ..))] at this
    simp only [dR, dP]
    walk_at "s"
    refine ⟨by omega, by omega, ?_⟩
    rw [show ((K : Int) - v.length + 1 - 1).toNat = K - v.length by omega]
    refine loop_ind (S := Wm × Nat × Sl × Sl) D.int (fun s => [.fz (.dkz (kM m) (xM m)), .fz (.str (tx [y])), .fz (.int t), .fz (.int K), .own false (.dct (kM s.1) (xM s.1)), .fz (.str (tx v)), .fz (.int n), s.2.2.1, s.2.2.2])
      (fun ks s => ks = rng ((s.2.1 : Int) + 1) 1 (K - v.length - s.2.1) ∧ s.2.1 ≤ K - v.length ∧ Lni y t K m r v n s.2.1 s.1) ?_ ?_ _ (f, 0, s7, s8) ⟨by simp, Nat.zero_le _, h1.begin⟩
    · rintro ⟨g, k, s7, s8⟩ ⟨g1, g2, g3⟩
      have hk' : k = K - v.length := by
        have := congrArg List.length g1
        rw [rng_len, List.length_nil] at this
        simp only at this g2
        omega
      subst hk'
      walk_at "s"
      exact ih (g, _, _, s7, s8) ⟨g3.done, fun p hp => h2 p (List.mem_cons_of_mem _ hp)⟩
    · rintro a ks ⟨g, k, s7, s8⟩ L2 ⟨g1, g2, g3⟩ ih2
      simp only at g1 g2
      have g3 : Lni y t K m r v n k g := g3
      obtain ⟨w, hw⟩ : ∃ w, K - v.length - k = w + 1 := by
        cases hw : K - v.length - k with
        | zero => rw [hw] at g1; cases g1
        | succ w => exact ⟨w, rfl⟩
      rw [hw, rng_succ] at g1
      obtain ⟨rfl, rfl⟩ := List.cons.inj g1
      have hlt : ∀ w ∈ keysM g, w.length ≤ K ∧ Lt w := fun w hw => by
        obtain ⟨a, u, i, hu, e⟩ := g3.ks w hw
        refine ⟨a, fun c hc => ?_⟩
        rw [e] at hc
        rcases List.mem_append.mp hc with z | z
        · exact (hk u hu).2 c z
        · rw [List.eq_of_mem_replicate z]; exact ⟨y1, y2⟩
      have few := few_keys hK g3.nf hlt
      have key : tx v ++ srep ((k : Int) + 1).toNat (tx [y]) = tx (v ++ List.replicate (k + 1) y) := by
        rw [tx_rep, tx_app, flat_rep]
        rfl
      walk_at "s"
      rw [show ((k : Int) + 1).toNat = k + 1 by omega, flat_rep, List.length_replicate] at *
      refine ⟨by omega, by omega, ?_⟩
      refine ⟨t, k + 1, rfl, ht, by omega, ?_⟩
      rw [get_kM]
      have cb := ch_bd ht (m := k + 1) (by omega)
      have cb2 : 121 * (k + 1) ≤ 121 * 5 := Nat.mul_le_mul_left _ (by omega)
      walk_at "s"
      rw [show ([y] :: List.replicate k [y]).flatten = y :: List.replicate k y from flat_rep y (k + 1)]
      obtain ⟨e1, e2⟩ := put_kM g3.nf (v ++ List.replicate (k + 1) y) (getM g (v ++ List.replicate (k + 1) y) + n * ch t (k + 1))
      simp only [List.replicate_succ] at e1 e2
      rw [e1, e2, xM_len]
      refine ⟨mul_le hn cb (by omega), by omega, ih2 (putM g _ _, k + 1, _, _) ⟨by simp only; congr 1; omega, by simp only; omega, g3.step hv (by omega)⟩⟩
def SP_rows_in : Spec := fun ds _ R => ∃ (c : List Pc) (K : Nat), ds = [dC c, .int K] ∧ K ≤ 5 ∧ c.length ≤ 100 ∧ Nl c ∧ Tb c ∧ ∀ m, RowsOf c K m → R (.new (.lst ((srtW m).map dR)))
theorem len_rows_in (ds : List D) (x : XS) (R : Rt → Prop) (h : SP_rows_in ds x R) : ds.length = ["cord", "length"].length := by
  obtain ⟨c, K, rfl, _⟩ := h; rfl
/-- the rows behind part of a cord -/
structure RwI (K N : Nat) (A : List Nat → Int) (m : Wm) : Prop where
  nd : (keysM m).Nodup
  ks : ∀ w ∈ keysM m, w.length ≤ K ∧ Lt w
  get : ∀ w, w.length ≤ K → getM m w = A w.reverse
  bd : Bdd 5 N A
theorem RwI.bnd {K N : Nat} {A : List Nat → Int} {m : Wm} (h : RwI K N A m) (hK : K ≤ 5) (w : List Nat) : (getM m w).natAbs ≤ 2 ^ N := by
  by_cases e : w.length ≤ K
  · rw [h.get w e]
    exact h.bd _ (RL.of (by simp; omega))
  · rw [getM_none fun z => e (h.ks w z).1]
    exact Nat.zero_le _
theorem RwI.start {K : Nat} : RwI K 0 one0 [([], 1)] := by
  refine ⟨by simp [keysM], fun w hw => ?_, fun w _ => ?_, one_bd⟩
  · have : w = [] := by simpa [keysM] using hw
    rw [this]
    exact ⟨Nat.zero_le _, fun _ h => by cases h⟩
  · rw [getM_c]
    cases w with
    | nil => rfl
    | cons x w =>
      rw [if_neg (by simp)]
      have : (x :: w).reverse ≠ [] := by simp
      obtain ⟨y, r, e⟩ := List.exists_cons_of_ne_nil this
      rw [e]
      rfl
theorem RwI.step {K N : Nat} {A : List Nat → Int} {m m' : Wm} {x : Nat} {t : Int} (h : RwI K N A m) (x1 : 97 ≤ x) (x2 : x ≤ 122) (ht : t.natAbs ≤ 2 ^ 120) (g : Lng x t K m [] m') : RwI K (N + (121 * 5 + 7)) (stp (tx [x], t) A) m' := by
  refine ⟨g.nf, fun w hw => ?_, fun w hw => ?_, stp_bd h.bd (by decide) ht⟩
  · obtain ⟨a, u, i, hu, e⟩ := g.ks w hw
    refine ⟨a, fun c hc => ?_⟩
    rw [e] at hc
    rcases List.mem_append.mp hc with z | z
    · exact (h.ks u hu).2 c z
    · rw [List.eq_of_mem_replicate z]; exact ⟨x1, x2⟩
  · rw [g.done hw]
    refine xx_congr _ 0 fun s hs => ?_
    have hs' : s.length ≤ K := by simp at hs; omega
    unfold asA
    rw [h.get _ (by simpa using hs'), List.reverse_reverse]
def isRow (K : Nat) (p : List Nat × Int) : Bool := decide (p.1.length = K) && !decide (p.2 = 0)
theorem RwI.rows {c : List Pc} {K N : Nat} {m : Wm} (h : RwI K N (tim c) m) : RowsOf c K (m.filter (isRow K)) := by
  have ndm : m.Nodup := List.Pairwise.of_map (·.1) (fun a b hab z => hab (by rw [z])) h.nd
  refine ⟨ndm.filter _, fun p => ?_⟩
  rw [List.mem_filter]
  unfold isRow
  rw [Bool.and_eq_true, decide_eq_true_eq, Bool.not_eq_true', decide_eq_false_iff_not]
  have val : ∀ w, w.length ≤ K → getM m w = wy c w := fun w hw => by rw [h.get w hw, wy_tim]
  constructor
  · rintro ⟨h1, h2, h3⟩
    refine ⟨h2, ?_, h3⟩
    rw [← val _ (by omega)]
    exact (getM_mem h.nd (v := p.2) h1).symm
  · rintro ⟨h1, h2, h3⟩
    refine ⟨?_, h1, h3⟩
    have e : getM m p.1 = p.2 := by rw [val _ (by omega), h2]
    have hk : p.1 ∈ keysM m := Classical.byContradiction fun z => h3 (by rw [← e, getM_none z])
    obtain ⟨r, hr, er⟩ := List.mem_map.mp hk
    have : r = p := Prod.ext er (by rw [← e, ← er]; exact (getM_mem h.nd (v := r.2) hr).symm)
    rw [← this]
    exact hr
def W_rows_in : WS :=
  (wSeqS (wsSet 2 (wDctL (wC (.str "")) (wC (.int 1))))
  (wSeqS (wFor (wSeq (wVar 0)) (wgTup 2 (wgCons (wgName 4) (wgCons (wgName 5) wgNil)))
  (wsSet 2 (wCall SP_longer (wCons (wVar 2) (wCons (wVar 4) (wCons (wVar 5) (wCons (wVar 1) wNil)))))))
  (wSeqS (wsSetF 3 (wLst wNil))
  (wSeqS (wFor (wItems (wVar 2)) (wgTup 2 (wgCons (wgName 6) (wgCons (wgName 7) wgNil)))
  (wIfS (wAnd (wtOn (wOp (gEq false) (wB gLen (wCons (wVar 6) wNil)) (wVar 1))) (wtOn (wOp (gEq true) (wVar 7) (wC (.int 0)))))
  (wMut 3 gApp (wCons (wTup (wCons (wVar 6) (wCons (wVar 7) wNil))) wNil))
  wsNil))
  (wsRetF (wBF gSorted (wCons (wOwn 3) wNil)))))))
theorem pure_rows_in (ds : List D) (x : XS) (R : Rt → Prop) (h : SP_rows_in ds x R) : W_rows_in (endsOf R x) (startE 8 ds) := by
  obtain ⟨c, K, rfl, hK, hc, nl, tb, q⟩ := h
  simp only [W_rows_in, wVar, wOwn, wC, wOp, onBl, wtOn, wChain, trD, wtVal, wtNot, wAnd, wOr, wAndV, wOrV, wNotV, wIf, wNil, wCons, wTup, wLst, wUn, wNew, gAdd, gInt, gInt0, gMul, gCatF, gRepF, wOpF, gEq, gCmp, gInS, gIsN, isN, gIsB, gIdx, woNone, woSome, gSl, wSl, gSlF, wSlF, wB, wBF, gLen, gInt1, gInt2, gToInt, gListF, tyName, gIsT, wIsT, wCall, Rt.d, Cn.d, onNew, wCallF, wCallN, wCallNF, nlR, wgName, wgNil, wgCons, wgTup, wSeq, wSeqT, wSigns, wRng1, wRng2, wRng3, wRev, wEnum, wZip, wLc, wtYes, wsNil, wsBrk, wsCnt, wsExpr, wsRet, wsRetF, wsRetOwn, wsRetN, wIfS, wsSet, wsSetF, wsAsg, wsPar, wsAug, gApp, gExt, gPop0, gRev, wMut, wsSetIx, wFor, wsRaise, wSeqS, wFrz, wsCallM, wsPopAdd, endsOf, endM, endsM, startM, startE, wipeE, smallI, CPow, Br_true, Br_false, Br_not, rngD_eq, dC, dP, dI, ex_atI_map, atI0, atI1, atI2, kit1, kit2, kit3, kit4, kit5, kit6, kit7, kit8, kit9, kit10, kit11, kit12, kit13, kit14, kit15, kit16, kit17, kit18, kit19, kit20, kit21, kit22, kit23, kit24, kit25, kit26, kit27, kit28, kit29, kit30, kit31, kit32, kit33, kit34, kit35, sizeLine_eq, true_and, and_true, exists_eq_left', Option.some.injEq, List.map_cons, List.map_nil, List.length_cons, List.length_nil, List.length_map, List.length_append, List.cons_append, List.nil_append, List.set_cons_zero, List.set_cons_succ, List.getElem?_cons_zero, List.getElem?_cons_succ, List.getElem?_nil, Nat.reduceSub, Nat.reduceAdd, Nat.zero_add, Nat.sub_self, List.replicate_succ, List.replicate_zero, Bool.false_bne, Bool.true_bne, Bool.false_xor, Bool.true_xor, Bool.not_true, Bool.not_false, Bool.not_not, beq_self_eq_true, Bool.and_true, Bool.true_and, nl, nls, decide_true, decide_false, exists_eq_left, Bool.false_eq_true, Option.some_inj, Int.reduceToNat, Int.reducePow, Int.reduceMul, Int.reduceSub, Int.reduceAdd, Int.reduceNeg, Nat.reducePow, Nat.reduceLeDiff, Int.reduceLE, Int.reduceLT, Int.reduceAbs, Int.natAbs_neg, Nat.reduceLT, divW_eq, mulW_eq, Bool.or_true, Bool.true_or, cut_map, ← List.map_append, ← List.map_reverse, castN, eq_self, Int.reduceEq, deqC, deq_self, rep_map, nls_dP, wsAugIx, tx_cps, tx_len, tx_app, tx_one, tx_nil, tx_cut, tx_signs, tx_rep, lit_empty, tx_inj, wJoin, gJoin, wmCall, wmOpL, wmOpR, wmIxR, wmTup2, wsSetM, wsAppM, wForM, gSum, gAny, gAll, gLtD, gInT, gSorted, gAddT, wThaw, gMaxL, wIsE, wIsV, wCallE, wTry, DEnds.off, gInB, wDct0, wCntB, wIdxB, wTryF, wIdxS, gInX, gIns, gTup, wDct1, gEqR, wsSetG, wgd0, wgdC, wLck, wDctL, wGetD, dctOf, wsSetKey, wItems, wSortI, wsCallMD, endsMD, endMD, startMD, gGtS, wsSetV]
  refine loop_ind (S := Wm × (List Nat → Int) × Nat × Sl × Sl) dP (fun s => [.fz (.lst (c.map dP)), .fz (.int K), .fz (.dkz (kM s.1) (xM s.1)), .un, s.2.2.2.1, s.2.2.2.2, .un, .un])
    (fun r s => r.foldl (fun A p => stp p A) s.2.1 = tim c ∧ RwI K s.2.2.1 s.2.1 s.1 ∧ s.2.2.1 + r.length * 612 ≤ 100000 ∧ Nl r ∧ Tb r) ?_ ?_ _ ([([], 1)], one0, 0, .un, .un) ⟨rfl, RwI.start, by simp only; omega, nl, tb⟩
  · rintro ⟨m, A, N, s4, s5⟩ ⟨h1, h2, _⟩
    have h1 : A = tim c := h1
    have h2 : RwI K N A m := h2
    subst h1
    have few := few_keys hK h2.nd h2.ks
    have fewf : (m.filter (isRow K)).length ≤ m.length := List.length_filter_le _ _
    walk_at "s"
    rw [items_kM]
    refine loop_ind (S := Wm × Sl × Sl) dR (fun s => [.fz (.lst (c.map dP)), .fz (.int K), .fz (.dkz (kM m) (xM m)), .own false (.lst (s.1.map dR)), s4, s5, s.2.1, s.2.2]) (fun r s => s.1 ++ r.filter (isRow K) = m.filter (isRow K) ∧ ∀ p ∈ r, p.1.length ≤ K) ?_ ?_ _ ([], .un, .un) ⟨rfl, fun p hp => (h2.ks _ (List.mem_map.mpr ⟨p, hp, rfl⟩)).1⟩
    · rintro ⟨f, s6, s7⟩ ⟨f1, _⟩
      have f1 : f = m.filter (isRow K) := by simpa using f1
      subst f1
      have ro := h2.rows
      walk_at "s"
      rw [sor_dR]
      exact ⟨srt_dR (ro.lt nl), q _ ro⟩
    · rintro ⟨w, n⟩ r ⟨f, s6, s7⟩ L ⟨f1, f2⟩ ih
      have wl : w.length ≤ K := f2 _ (List.mem_cons_self ..)
      have fl : f.length ≤ (m.filter (isRow K)).length := by rw [← f1]; simp
      simp only [dR, dP]
      walk_at "s"
      have no : ¬ (w.length = K ∧ n ≠ 0) → L [.fz (.lst (c.map dP)), .fz (.int K), .fz (.dkz (kM m) (xM m)), .own false (.lst (f.map dR)), s4, s5, .fz (.str (tx w)), .fz (.int n)] := fun e =>
        ih (f, .fz (.str (tx w)), .fz (.int n)) ⟨by
          rw [← f1, List.filter_cons_of_neg]
          unfold isRow
          simpa using e, fun p hp => f2 p (List.mem_cons_of_mem _ hp)⟩
      refine ⟨by omega, Br.d (fun e => ?_) (fun e => ?_)⟩
      · walk_at "s"
        refine Br.d (fun e2 => ?_) (fun e2 => ?_)
        · exact no fun z => z.2 e2
        · walk_at "s"
          refine ⟨by omega, ?_⟩
          have e' : w.length = K := by omega
          have hp : isRow K (w, n) = true := by
            unfold isRow
            simp [e', e2]
          have := ih (f ++ [(w, n)], .fz (.str (tx w)), .fz (.int n)) ⟨by
            rw [← f1, List.filter_cons_of_pos hp]
            simp, fun p hp => f2 p (List.mem_cons_of_mem _ hp)⟩
          simpa [dR, dP] using this
      · exact no fun z => e (by simp [z.1])
  · rintro ⟨n, t⟩ r ⟨m, A, N, s4, s5⟩ L ⟨h1, h2, h3, h4, h5⟩ ih
    have h2 : RwI K N A m := h2
    obtain ⟨y, rfl, y1, y2⟩ := h4 _ (List.mem_cons_self ..)
    have ht : t.natAbs ≤ 2 ^ 120 := h5 _ (List.mem_cons_self ..)
    simp only [List.foldl_cons, List.length_cons] at h1 h3
    simp only [dP]
    walk_at "s"
    refine ⟨m, y, t, K, N, rfl, hK, ht, y1, y2, by omega, h2.nd, h2.ks, h2.bnd hK, fun m' hm' => ?_⟩
    walk_at "s"
    exact ih (m', stp (tx [y], t) A, N + 612, _, _) ⟨h1, h2.step y1 y2 ht hm', by simp only at h3 ⊢; omega, fun p hp => h4 p (List.mem_cons_of_mem _ hp), fun p hp => h5 p (List.mem_cons_of_mem _ hp)⟩
def SP_law_right : Spec := fun ds _ R => ∃ m : Wm, ds = [.lst (m.map dR), .lst (m.map dR)] ∧ (∀ p ∈ m, Lt p.1) ∧ m.length ≤ 100000000 ∧ R (.val (.bl true))
theorem len_law_right (ds : List D) (x : XS) (R : Rt → Prop) (h : SP_law_right ds x R) : ds.length = ["_law_found", "_law_due_here"].length := by
  obtain ⟨m, rfl, _⟩ := h; rfl
def W_law_right : WS :=
  (wSeqS (wIfS (wOr (wtNot (wtVal (wIsT "list" (wVar 0)))) (wtOn (wOp (gEq true) (wB gLen (wCons (wVar 0) wNil)) (wB gLen (wCons (wVar 1) wNil)))))
  (wsRet (wC (.bl false)))
  wsNil)
  (wSeqS (wFor (wRng1 (wB gLen (wCons (wVar 1) wNil))) (wgName 2)
  (wSeqS (wIfS (wOr (wtNot (wtVal (wIsT "tuple" (wOp gIdx (wVar 0) (wVar 2))))) (wOr (wtOn (wOp (gEq true) (wB gLen (wCons (wOp gIdx (wVar 0) (wVar 2)) wNil)) (wC (.int 2)))) (wtNot (wtVal (wIsT "str" (wOp gIdx (wOp gIdx (wVar 0) (wVar 2)) (wC (.int 0))))))))
  (wsRet (wC (.bl false)))
  wsNil)
  (wIfS (wOr (wtNot (wtVal (wIsT "int" (wOp gIdx (wOp gIdx (wVar 0) (wVar 2)) (wC (.int 1)))))) (wOr (wtVal (wIsT "bool" (wOp gIdx (wOp gIdx (wVar 0) (wVar 2)) (wC (.int 1))))) (wtOn (wOp (gEq true) (wOp gIdx (wVar 0) (wVar 2)) (wOp gIdx (wVar 1) (wVar 2))))))
  (wsRet (wC (.bl false)))
  wsNil)))
  (wsRet (wC (.bl true)))))
theorem pure_law_right (ds : List D) (x : XS) (R : Rt → Prop) (h : SP_law_right ds x R) : W_law_right (endsOf R x) (startE 3 ds) := by
  obtain ⟨m, rfl, hm, hl, q⟩ := h
  simp only [W_law_right, wVar, wOwn, wC, wOp, onBl, wtOn, wChain, trD, wtVal, wtNot, wAnd, wOr, wAndV, wOrV, wNotV, wIf, wNil, wCons, wTup, wLst, wUn, wNew, gAdd, gInt, gInt0, gMul, gCatF, gRepF, wOpF, gEq, gCmp, gInS, gIsN, isN, gIsB, gIdx, woNone, woSome, gSl, wSl, gSlF, wSlF, wB, wBF, gLen, gInt1, gInt2, gToInt, gListF, tyName, gIsT, wIsT, wCall, Rt.d, Cn.d, onNew, wCallF, wCallN, wCallNF, nlR, wgName, wgNil, wgCons, wgTup, wSeq, wSeqT, wSigns, wRng1, wRng2, wRng3, wRev, wEnum, wZip, wLc, wtYes, wsNil, wsBrk, wsCnt, wsExpr, wsRet, wsRetF, wsRetOwn, wsRetN, wIfS, wsSet, wsSetF, wsAsg, wsPar, wsAug, gApp, gExt, gPop0, gRev, wMut, wsSetIx, wFor, wsRaise, wSeqS, wFrz, wsCallM, wsPopAdd, endsOf, endM, endsM, startM, startE, wipeE, smallI, CPow, Br_true, Br_false, Br_not, rngD_eq, dC, dP, dI, ex_atI_map, atI0, atI1, atI2, kit1, kit2, kit3, kit4, kit5, kit6, kit7, kit8, kit9, kit10, kit11, kit12, kit13, kit14, kit15, kit16, kit17, kit18, kit19, kit20, kit21, kit22, kit23, kit24, kit25, kit26, kit27, kit28, kit29, kit30, kit31, kit32, kit33, kit34, kit35, sizeLine_eq, true_and, and_true, exists_eq_left', Option.some.injEq, List.map_cons, List.map_nil, List.length_cons, List.length_nil, List.length_map, List.length_append, List.cons_append, List.nil_append, List.set_cons_zero, List.set_cons_succ, List.getElem?_cons_zero, List.getElem?_cons_succ, List.getElem?_nil, Nat.reduceSub, Nat.reduceAdd, Nat.zero_add, Nat.sub_self, List.replicate_succ, List.replicate_zero, Bool.false_bne, Bool.true_bne, Bool.false_xor, Bool.true_xor, Bool.not_true, Bool.not_false, Bool.not_not, beq_self_eq_true, Bool.and_true, Bool.true_and, nl, nls, decide_true, decide_false, exists_eq_left, Bool.false_eq_true, Option.some_inj, Int.reduceToNat, Int.reducePow, Int.reduceMul, Int.reduceSub, Int.reduceAdd, Int.reduceNeg, Nat.reducePow, Nat.reduceLeDiff, Int.reduceLE, Int.reduceLT, Int.reduceAbs, Int.natAbs_neg, Nat.reduceLT, divW_eq, mulW_eq, Bool.or_true, Bool.true_or, cut_map, ← List.map_append, ← List.map_reverse, castN, eq_self, Int.reduceEq, deqC, deq_self, rep_map, nls_dP, wsAugIx, tx_cps, tx_len, tx_app, tx_one, tx_nil, tx_cut, tx_signs, tx_rep, lit_empty, tx_inj, wJoin, gJoin, wmCall, wmOpL, wmOpR, wmIxR, wmTup2, wsSetM, wsAppM, wForM, gSum, gAny, gAll, gLtD, gInT, gSorted, gAddT, wThaw, gMaxL, wIsE, wIsV, wCallE, wTry, DEnds.off, gInB, wDct0, wCntB, wIdxB, wTryF, wIdxS, gInX, gIns, gTup, wDct1, gEqR, wsSetG, wgd0, wgdC, wLck, wDctL, wGetD, dctOf, wsSetKey, wItems, wSortI, wsCallMD, endsMD, endMD, startMD, gGtS, wsSetV]
  refine ⟨by omega, ?_⟩
  refine loop_ind (S := Sl) D.int (fun s => [.fz (.lst (m.map dR)), .fz (.lst (m.map dR)), s]) (fun r _ => ∀ k ∈ r, 0 ≤ k ∧ k < (m.length : Int)) ?_ ?_ _ .un (fun k hk => ?_)
  · intro s _
    walk_at "s"
    exact q
  · intro k r s K h ih
    obtain ⟨k0, k1⟩ := h k (List.mem_cons_self ..)
    obtain ⟨p, hp, mp⟩ := atI_in (xs := m) (i := k) k0 k1
    have ok := tx_ok (hm p mp)
    have nbp : nb 20 (dP (tx p.1, p.2)) = true := by simp [dP, nb, ok]
    walk_at "s"
    iterate 5
      refine ⟨p, hp, ?_⟩
      simp only [dR, dP]
      walk_at "s"
    refine ⟨p, hp, p, hp, ?_⟩
    simp only [dR, dP]
    refine ⟨⟨nbp, nbp⟩, ?_⟩
    walk_at "s"
    exact ih _ fun j hj => h j (List.mem_cons_of_mem _ hj)
  · obtain ⟨i, hi, rfl⟩ := mem_rng hk
    omega
end NL

namespace NL
open PySem PySem.Spec L2
open PyProof.Rows hiding St
local macro_rules | `(tactic| walk_at "s") => `(tactic| try simp only [wVar, wOwn, wC, wOp, onBl, wtOn, wChain, trD, wtVal, wtNot, wAnd, wOr, wAndV, wOrV, wNotV, wIf, wNil, wCons, wTup, wLst, wUn, wNew, gAdd, gInt, gInt0, gMul, gCatF, gRepF, wOpF, gEq, gCmp, gInS, gIsN, isN, gIsB, gIdx, woNone, woSome, gSl, wSl, gSlF, wSlF, wB, wBF, gLen, gInt1, gInt2, gToInt, gListF, tyName, gIsT, wIsT, wCall, Rt.d, Cn.d, onNew, wCallF, wCallN, wCallNF, nlR, wgName, wgNil, wgCons, wgTup, wSeq, wSeqT, wSigns, wRng1, wRng2, wRng3, wRev, wEnum, wZip, wLc, wtYes, wsNil, wsBrk, wsCnt, wsExpr, wsRet, wsRetF, wsRetOwn, wsRetN, wIfS, wsSet, wsSetF, wsAsg, wsPar, wsAug, gApp, gExt, gPop0, gRev, wMut, wsSetIx, wFor, wsRaise, wSeqS, wFrz, wsCallM, wsPopAdd, endsOf, endM, endsM, startM, startE, wipeE, smallI, CPow, Br_true, Br_false, Br_not, rngD_eq, dC, dP, dI, ex_atI_map, atI0, atI1, atI2, kit1, kit2, kit3, kit4, kit5, kit6, kit7, kit8, kit9, kit10, kit11, kit12, kit13, kit14, kit15, kit16, kit17, kit18, kit19, kit20, kit21, kit22, kit23, kit24, kit25, kit26, kit27, kit28, kit29, kit30, kit31, kit32, kit33, kit34, kit35, sizeLine_eq, true_and, and_true, exists_eq_left', Option.some.injEq, List.map_cons, List.map_nil, List.length_cons, List.length_nil, List.length_map, List.length_append, List.cons_append, List.nil_append, List.set_cons_zero, List.set_cons_succ, List.getElem?_cons_zero, List.getElem?_cons_succ, List.getElem?_nil, Nat.reduceSub, Nat.reduceAdd, Nat.zero_add, Nat.sub_self, List.replicate_succ, List.replicate_zero, Bool.false_bne, Bool.true_bne, Bool.false_xor, Bool.true_xor, Bool.not_true, Bool.not_false, Bool.not_not, beq_self_eq_true, Bool.and_true, Bool.true_and, nl, nls, decide_true, decide_false, exists_eq_left, Bool.false_eq_true, Option.some_inj, Int.reduceToNat, Int.reducePow, Int.reduceMul, Int.reduceSub, Int.reduceAdd, Int.reduceNeg, Nat.reducePow, Nat.reduceLeDiff, Int.reduceLE, Int.reduceLT, Int.reduceAbs, Int.natAbs_neg, Nat.reduceLT, divW_eq, mulW_eq, Bool.or_true, Bool.true_or, cut_map, ← List.map_append, ← List.map_reverse, castN, eq_self, Int.reduceEq, deqC, deq_self, rep_map, nls_dP, wsAugIx, tx_cps, tx_len, tx_app, tx_one, tx_nil, tx_cut, tx_signs, tx_rep, lit_empty, tx_inj, wJoin, gJoin, wmCall, wmOpL, wmOpR, wmIxR, wmTup2, wsSetM, wsAppM, wForM, gSum, gAny, gAll, gLtD, gInT, gSorted, gAddT, wThaw, gMaxL, wIsE, wIsV, wCallE, wTry, DEnds.off, gInB, wDct0, wCntB, wIdxB, wTryF, wIdxS, gInX, gIns, gTup, wDct1, gEqR, wsSetG, wgd0, wgdC, wLck, wDctL, wGetD, dctOf, wsSetKey, wItems, wSortI, wsCallMD, endsMD, endMD, startMD, gGtS, wsSetV])
def W_law_4 : WS :=
  (wSeqS (wsSet 3 (wCall SP_law_due (wCons (wVar 1) (wCons (wVar 2) wNil))))
  (wSeqS (wsSet 4 (wNew (wBF gListF (wCons (wVar 1) wNil))))
  (wSeqS (wsSetF 5 (wCallF SP_rows_in (wCons (wVar 4) (wCons (wVar 2) wNil))))
  (wSeqS (wIfS (wOr (wtNot (wtVal (wCallN SP_law_right (wCons (wOwn 5) (wCons (wVar 3) wNil))))) (wtOn (wOp (gEq true) (wVar 4) (wVar 1))))
  (wsRet (wC (.bl false)))
  wsNil)
  (wSeqS (wMut 5 gApp (wCons (wTup (wCons (wC (.str "")) (wCons (wC (.int 0)) wNil))) wNil))
  (wsRet (wCall SP_law_right (wCons (wCall SP_rows_in (wCons (wVar 4) (wCons (wVar 2) wNil))) (wCons (wVar 3) wNil)))))))))
def W_law_3 : WS :=
  (wSeqS (wIfS (wtOn (wOp (gEq false) (wOp (gInt (fun _ j => 0 < j) fun i j => i % j) (wCall SP_law_at (wCons (wVar 0) (wCons (wC (.int 1)) wNil))) (wC (.int 3))) (wC (.int 2))))
  (wSeqS (wsSet 2 (wOp (gInt (fun _ j => 0 < j) fun i j => i % j) (wOp (gInt CDivW fun i j => i / j) (wCall SP_law_at (wCons (wVar 0) (wCons (wC (.int 1)) wNil))) (wC (.int 3))) (wC (.int 6))))
  (wSeqS (wsSetF 1 (wLc (wSeq (wVar 1)) (wgTup 2 (wgCons (wgName 6) (wgCons (wgName 7) wgNil))) wtYes (wTup (wCons (wOp gIdx (wC (.str "mn")) (wB gToInt (wCons (wOp gGtS (wVar 6) (wC (.str "b"))) wNil))) (wCons (wVar 7) wNil))) [6, 7]))
  (wFrz 1 wsNil)))
  wsNil)
  W_law_4)
def W_law_2 : WS :=
  (wSeqS (wIfS (wtOn (wOp (gEq false) (wOp (gInt (fun _ j => 0 < j) fun i j => i % j) (wCall SP_law_at (wCons (wVar 0) (wCons (wC (.int 1)) wNil))) (wC (.int 3))) (wC (.int 1))))
  (wSeqS (wsSet 2 (wOp gAdd (wC (.int 3)) (wOp (gInt (fun _ j => 0 < j) fun i j => i % j) (wOp (gInt CDivW fun i j => i / j) (wCall SP_law_at (wCons (wVar 0) (wCons (wC (.int 1)) wNil))) (wC (.int 3))) (wC (.int 3)))))
  (wsSet 1 (wSl (wVar 1) woNone (woSome (wOp gIdx (wNew (wLst (wCons (wC (.int 8)) (wCons (wC (.int 5)) (wCons (wC (.int 4)) wNil))))) (wOp (gInt0 fun i j => i - j) (wVar 2) (wC (.int 3))))))))
  wsNil)
  W_law_3)
def W_law : WS :=
  (wSeqS (wsSet 1 (wCall SP_law_tame (wCons (wCall SP_law_cord (wCons (wVar 0) (wCons (wC (.int 0)) (wCons (wC (.int 63)) (wCons (wC (.int 12)) wNil))))) wNil)))
  (wSeqS (wsSet 2 (wOp (gInt (fun _ j => 0 < j) fun i j => i % j) (wOp (gInt CDivW fun i j => i / j) (wCall SP_law_at (wCons (wVar 0) (wCons (wC (.int 1)) wNil))) (wC (.int 3))) (wC (.int 3))))
  W_law_2))
theorem RowsOf.few {c : List Pc} {K : Nat} {m : Wm} (h : RowsOf c K m) (nl : Nl c) (hK : K ≤ 5) : m.length ≤ 12356631 := by
  have nd : (keysM m).Nodup := by
    have := h.nd
    have inj : ∀ a ∈ m, ∀ b ∈ m, a.1 = b.1 → a = b := fun a ha b hb e => by
      obtain ⟨_, a2, _⟩ := (h.is a).mp ha
      obtain ⟨_, b2, _⟩ := (h.is b).mp hb
      exact Prod.ext e (by rw [a2, b2, e])
    unfold keysM
    clear h
    induction m with
    | nil => simp
    | cons p m ih =>
      obtain ⟨n1, n2⟩ := List.nodup_cons.mp this
      rw [List.map_cons, List.nodup_cons]
      refine ⟨fun z => ?_, ih n2 fun a ha b hb => inj a (List.mem_cons_of_mem _ ha) b (List.mem_cons_of_mem _ hb)⟩
      obtain ⟨r, hr, e⟩ := List.mem_map.mp z
      exact n1 (by rw [inj p (List.mem_cons_self ..) r (List.mem_cons_of_mem _ hr) e.symm]; exact hr)
  refine few_keys hK nd fun w hw => ?_
  obtain ⟨p, hp, rfl⟩ := List.mem_map.mp hw
  exact ⟨by have := ((h.is p).mp hp).1; omega, h.lt nl p hp⟩
theorem k16_4 {q : DEnds} {ns : List Int} {d : List Pc} {K : Nat} {s3 s4 s6 s7 : Sl} (hd : d.length ≤ 12) (nl : Nl d) (tb : Tb d) (hK : K ≤ 5) (h : ∀ ρ, q.rt (.val (.bl true)) ρ) :
    W_law_4 q [.fz (.scr ns), .fz (dC d), .fz (.int K), s3, s4, .un, s6, s7] := by
  simp only [W_law_4, wVar, wOwn, wC, wOp, onBl, wtOn, wChain, trD, wtVal, wtNot, wAnd, wOr, wAndV, wOrV, wNotV, wIf, wNil, wCons, wTup, wLst, wUn, wNew, gAdd, gInt, gInt0, gMul, gCatF, gRepF, wOpF, gEq, gCmp, gInS, gIsN, isN, gIsB, gIdx, woNone, woSome, gSl, wSl, gSlF, wSlF, wB, wBF, gLen, gInt1, gInt2, gToInt, gListF, tyName, gIsT, wIsT, wCall, Rt.d, Cn.d, onNew, wCallF, wCallN, wCallNF, nlR, wgName, wgNil, wgCons, wgTup, wSeq, wSeqT, wSigns, wRng1, wRng2, wRng3, wRev, wEnum, wZip, wLc, wtYes, wsNil, wsBrk, wsCnt, wsExpr, wsRet, wsRetF, wsRetOwn, wsRetN, wIfS, wsSet, wsSetF, wsAsg, wsPar, wsAug, gApp, gExt, gPop0, gRev, wMut, wsSetIx, wFor, wsRaise, wSeqS, wFrz, wsCallM, wsPopAdd, endsOf, endM, endsM, startM, startE, wipeE, smallI, CPow, Br_true, Br_false, Br_not, rngD_eq, dC, dP, dI, ex_atI_map, atI0, atI1, atI2, kit1, kit2, kit3, kit4, kit5, kit6, kit7, kit8, kit9, kit10, kit11, kit12, kit13, kit14, kit15, kit16, kit17, kit18, kit19, kit20, kit21, kit22, kit23, kit24, kit25, kit26, kit27, kit28, kit29, kit30, kit31, kit32, kit33, kit34, kit35, sizeLine_eq, true_and, and_true, exists_eq_left', Option.some.injEq, List.map_cons, List.map_nil, List.length_cons, List.length_nil, List.length_map, List.length_append, List.cons_append, List.nil_append, List.set_cons_zero, List.set_cons_succ, List.getElem?_cons_zero, List.getElem?_cons_succ, List.getElem?_nil, Nat.reduceSub, Nat.reduceAdd, Nat.zero_add, Nat.sub_self, List.replicate_succ, List.replicate_zero, Bool.false_bne, Bool.true_bne, Bool.false_xor, Bool.true_xor, Bool.not_true, Bool.not_false, Bool.not_not, beq_self_eq_true, Bool.and_true, Bool.true_and, nl, nls, decide_true, decide_false, exists_eq_left, Bool.false_eq_true, Option.some_inj, Int.reduceToNat, Int.reducePow, Int.reduceMul, Int.reduceSub, Int.reduceAdd, Int.reduceNeg, Nat.reducePow, Nat.reduceLeDiff, Int.reduceLE, Int.reduceLT, Int.reduceAbs, Int.natAbs_neg, Nat.reduceLT, divW_eq, mulW_eq, Bool.or_true, Bool.true_or, cut_map, ← List.map_append, ← List.map_reverse, castN, eq_self, Int.reduceEq, deqC, deq_self, rep_map, nls_dP, wsAugIx, tx_cps, tx_len, tx_app, tx_one, tx_nil, tx_cut, tx_signs, tx_rep, lit_empty, tx_inj, wJoin, gJoin, wmCall, wmOpL, wmOpR, wmIxR, wmTup2, wsSetM, wsAppM, wForM, gSum, gAny, gAll, gLtD, gInT, gSorted, gAddT, wThaw, gMaxL, wIsE, wIsV, wCallE, wTry, DEnds.off, gInB, wDct0, wCntB, wIdxB, wTryF, wIdxS, gInX, gIns, gTup, wDct1, gEqR, wsSetG, wgd0, wgdC, wLck, wDctL, wGetD, dctOf, wsSetKey, wItems, wSortI, wsCallMD, endsMD, endMD, startMD, gGtS, wsSetV]
  refine ⟨d, K, rfl, hK, hd, nl, tb, fun m hm => ?_⟩
  walk_at "s"
  refine ⟨d, K, rfl, hK, by omega, nl, tb, fun m1 hm1 => ?_⟩
  rw [srtW_perm (hm1.perm hm)]
  walk_at "s"
  have fm := hm.few nl hK
  have fs : (srtW m).length = m.length := (srtW_is m).length_eq
  have ltm : ∀ p ∈ srtW m, Lt p.1 := fun p hp => hm.lt nl p ((srtW_is m).mem_iff.mp hp)
  have nbd : nb 20 (.lst (d.map dP)) = true := nb_dC nl.ok
  refine ⟨srtW m, rfl, ltm, by omega, ?_⟩
  walk_at "s"
  refine ⟨⟨nbd, nbd⟩, ?_⟩
  walk_at "s"
  refine ⟨by omega, ?_⟩
  refine ⟨d, K, rfl, hK, by omega, nl, tb, fun m2 hm2 => ?_⟩
  rw [srtW_perm (hm2.perm hm)]
  walk_at "s"
  refine ⟨srtW m, rfl, ltm, by omega, ?_⟩
  walk_at "s"
  exact h _
theorem k16_3 {q : DEnds} {ns : List Int} {d : List Pc} {K : Nat} (hn : ns.length ≤ 63) (hd : d.length ≤ 12) (nl : Nl d) (tb : Tb d) (hK : K ≤ 5) (h : ∀ ρ, q.rt (.val (.bl true)) ρ) :
    W_law_3 q [.fz (.scr ns), .fz (dC d), .fz (.int K), .un, .un, .un, .un, .un] := by
  simp only [W_law_3, wVar, wOwn, wC, wOp, onBl, wtOn, wChain, trD, wtVal, wtNot, wAnd, wOr, wAndV, wOrV, wNotV, wIf, wNil, wCons, wTup, wLst, wUn, wNew, gAdd, gInt, gInt0, gMul, gCatF, gRepF, wOpF, gEq, gCmp, gInS, gIsN, isN, gIsB, gIdx, woNone, woSome, gSl, wSl, gSlF, wSlF, wB, wBF, gLen, gInt1, gInt2, gToInt, gListF, tyName, gIsT, wIsT, wCall, Rt.d, Cn.d, onNew, wCallF, wCallN, wCallNF, nlR, wgName, wgNil, wgCons, wgTup, wSeq, wSeqT, wSigns, wRng1, wRng2, wRng3, wRev, wEnum, wZip, wLc, wtYes, wsNil, wsBrk, wsCnt, wsExpr, wsRet, wsRetF, wsRetOwn, wsRetN, wIfS, wsSet, wsSetF, wsAsg, wsPar, wsAug, gApp, gExt, gPop0, gRev, wMut, wsSetIx, wFor, wsRaise, wSeqS, wFrz, wsCallM, wsPopAdd, endsOf, endM, endsM, startM, startE, wipeE, smallI, CPow, Br_true, Br_false, Br_not, rngD_eq, dC, dP, dI, ex_atI_map, atI0, atI1, atI2, kit1, kit2, kit3, kit4, kit5, kit6, kit7, kit8, kit9, kit10, kit11, kit12, kit13, kit14, kit15, kit16, kit17, kit18, kit19, kit20, kit21, kit22, kit23, kit24, kit25, kit26, kit27, kit28, kit29, kit30, kit31, kit32, kit33, kit34, kit35, sizeLine_eq, true_and, and_true, exists_eq_left', Option.some.injEq, List.map_cons, List.map_nil, List.length_cons, List.length_nil, List.length_map, List.length_append, List.cons_append, List.nil_append, List.set_cons_zero, List.set_cons_succ, List.getElem?_cons_zero, List.getElem?_cons_succ, List.getElem?_nil, Nat.reduceSub, Nat.reduceAdd, Nat.zero_add, Nat.sub_self, List.replicate_succ, List.replicate_zero, Bool.false_bne, Bool.true_bne, Bool.false_xor, Bool.true_xor, Bool.not_true, Bool.not_false, Bool.not_not, beq_self_eq_true, Bool.and_true, Bool.true_and, nl, nls, decide_true, decide_false, exists_eq_left, Bool.false_eq_true, Option.some_inj, Int.reduceToNat, Int.reducePow, Int.reduceMul, Int.reduceSub, Int.reduceAdd, Int.reduceNeg, Nat.reducePow, Nat.reduceLeDiff, Int.reduceLE, Int.reduceLT, Int.reduceAbs, Int.natAbs_neg, Nat.reduceLT, divW_eq, mulW_eq, Bool.or_true, Bool.true_or, cut_map, ← List.map_append, ← List.map_reverse, castN, eq_self, Int.reduceEq, deqC, deq_self, rep_map, nls_dP, wsAugIx, tx_cps, tx_len, tx_app, tx_one, tx_nil, tx_cut, tx_signs, tx_rep, lit_empty, tx_inj, wJoin, gJoin, wmCall, wmOpL, wmOpR, wmIxR, wmTup2, wsSetM, wsAppM, wForM, gSum, gAny, gAll, gLtD, gInT, gSorted, gAddT, wThaw, gMaxL, wIsE, wIsV, wCallE, wTry, DEnds.off, gInB, wDct0, wCntB, wIdxB, wTryF, wIdxS, gInX, gIns, gTup, wDct1, gEqR, wsSetG, wgd0, wgdC, wLck, wDctL, wGetD, dctOf, wsSetKey, wItems, wSortI, wsCallMD, endsMD, endMD, startMD, gGtS, wsSetV]
  refine ⟨ns, 1, rfl, by decide, ?_⟩
  walk_at "s"
  refine Br.d (fun e => ?_) (fun e => ?_)
  · walk_at "s"
    refine ⟨ns, 1, rfl, by decide, ?_⟩
    walk_at "s"
    obtain ⟨k, hk⟩ : ∃ k : Nat, ns.getD 1 0 / 3 % 6 = k := ⟨(ns.getD 1 0 / 3 % 6).toNat, by omega⟩
    rw [hk]
    have z2 : (Str.ofString "mn").length ≤ 16777216 := by decide +kernel
    have at0 : atI (Str.ofString "mn").cps.toList 0 = some 109 := by decide +kernel
    have at1 : atI (Str.ofString "mn").cps.toList 1 = some 110 := by decide +kernel
    refine compL_map' dP (fun p => dP (tx [if (Str.ofString "b").cps.toList < p.1.cps.toList then 110 else 109], p.2)) d [] (fun p hp Q' hq => ?_) (by rw [List.length_nil, sizeLine_eq]; omega) ?_
    · simp only [dP] at hq ⊢
      walk_at "s"
      refine ⟨by decide +kernel, ?_⟩
      by_cases c : (Str.ofString "b").cps.toList < p.1.cps.toList
      · rw [if_pos c] at hq
        rw [decide_eq_true c]
        exact ⟨110, at1, hq⟩
      · rw [if_neg c] at hq
        rw [decide_eq_false c]
        exact ⟨109, at0, hq⟩
    · rw [List.nil_append]
      walk_at "s"
      have e2 : (d.map fun p : Pc => D.tup [D.str (tx [if (Str.ofString "b").cps.toList < p.1.cps.toList then 110 else 109]), D.int p.2]) = (d.map fun p : Pc => ((tx [if (Str.ofString "b").cps.toList < p.1.cps.toList then 110 else 109], p.2) : Pc)).map dP := by rw [List.map_map]; rfl
      rw [e2]
      refine k16_4 (by rw [List.length_map]; exact hd) (fun p hp => ?_) (fun p hp => ?_) (by omega) h
      · obtain ⟨r, hr, rfl⟩ := List.mem_map.mp hp
        simp only
        split
        · exact ⟨110, rfl, by decide, by decide⟩
        · exact ⟨109, rfl, by decide, by decide⟩
      · obtain ⟨r, hr, rfl⟩ := List.mem_map.mp hp
        exact tb r hr
  · exact k16_4 hd nl tb hK h
theorem k16_2 {q : DEnds} {ns : List Int} {d : List Pc} {K : Nat} (hn : ns.length ≤ 63) (hd : d.length ≤ 12) (nl : Nl d) (tb : Tb d) (hK : K ≤ 5) (h : ∀ ρ, q.rt (.val (.bl true)) ρ) :
    W_law_2 q [.fz (.scr ns), .fz (dC d), .fz (.int K), .un, .un, .un, .un, .un] := by
  simp only [W_law_2, wVar, wOwn, wC, wOp, onBl, wtOn, wChain, trD, wtVal, wtNot, wAnd, wOr, wAndV, wOrV, wNotV, wIf, wNil, wCons, wTup, wLst, wUn, wNew, gAdd, gInt, gInt0, gMul, gCatF, gRepF, wOpF, gEq, gCmp, gInS, gIsN, isN, gIsB, gIdx, woNone, woSome, gSl, wSl, gSlF, wSlF, wB, wBF, gLen, gInt1, gInt2, gToInt, gListF, tyName, gIsT, wIsT, wCall, Rt.d, Cn.d, onNew, wCallF, wCallN, wCallNF, nlR, wgName, wgNil, wgCons, wgTup, wSeq, wSeqT, wSigns, wRng1, wRng2, wRng3, wRev, wEnum, wZip, wLc, wtYes, wsNil, wsBrk, wsCnt, wsExpr, wsRet, wsRetF, wsRetOwn, wsRetN, wIfS, wsSet, wsSetF, wsAsg, wsPar, wsAug, gApp, gExt, gPop0, gRev, wMut, wsSetIx, wFor, wsRaise, wSeqS, wFrz, wsCallM, wsPopAdd, endsOf, endM, endsM, startM, startE, wipeE, smallI, CPow, Br_true, Br_false, Br_not, rngD_eq, dC, dP, dI, ex_atI_map, atI0, atI1, atI2, kit1, kit2, kit3, kit4, kit5, kit6, kit7, kit8, kit9, kit10, kit11, kit12, kit13, kit14, kit15, kit16, kit17, kit18, kit19, kit20, kit21, kit22, kit23, kit24, kit25, kit26, kit27, kit28, kit29, kit30, kit31, kit32, kit33, kit34, kit35, sizeLine_eq, true_and, and_true, exists_eq_left', Option.some.injEq, List.map_cons, List.map_nil, List.length_cons, List.length_nil, List.length_map, List.length_append, List.cons_append, List.nil_append, List.set_cons_zero, List.set_cons_succ, List.getElem?_cons_zero, List.getElem?_cons_succ, List.getElem?_nil, Nat.reduceSub, Nat.reduceAdd, Nat.zero_add, Nat.sub_self, List.replicate_succ, List.replicate_zero, Bool.false_bne, Bool.true_bne, Bool.false_xor, Bool.true_xor, Bool.not_true, Bool.not_false, Bool.not_not, beq_self_eq_true, Bool.and_true, Bool.true_and, nl, nls, decide_true, decide_false, exists_eq_left, Bool.false_eq_true, Option.some_inj, Int.reduceToNat, Int.reducePow, Int.reduceMul, Int.reduceSub, Int.reduceAdd, Int.reduceNeg, Nat.reducePow, Nat.reduceLeDiff, Int.reduceLE, Int.reduceLT, Int.reduceAbs, Int.natAbs_neg, Nat.reduceLT, divW_eq, mulW_eq, Bool.or_true, Bool.true_or, cut_map, ← List.map_append, ← List.map_reverse, castN, eq_self, Int.reduceEq, deqC, deq_self, rep_map, nls_dP, wsAugIx, tx_cps, tx_len, tx_app, tx_one, tx_nil, tx_cut, tx_signs, tx_rep, lit_empty, tx_inj, wJoin, gJoin, wmCall, wmOpL, wmOpR, wmIxR, wmTup2, wsSetM, wsAppM, wForM, gSum, gAny, gAll, gLtD, gInT, gSorted, gAddT, wThaw, gMaxL, wIsE, wIsV, wCallE, wTry, DEnds.off, gInB, wDct0, wCntB, wIdxB, wTryF, wIdxS, gInX, gIns, gTup, wDct1, gEqR, wsSetG, wgd0, wgdC, wLck, wDctL, wGetD, dctOf, wsSetKey, wItems, wSortI, wsCallMD, endsMD, endMD, startMD, gGtS, wsSetV]
  refine ⟨ns, 1, rfl, by decide, ?_⟩
  walk_at "s"
  refine Br.d (fun e => ?_) (fun e => ?_)
  · walk_at "s"
    refine ⟨ns, 1, rfl, by decide, ?_⟩
    walk_at "s"
    obtain ⟨k, hk⟩ : ∃ k : Nat, ns.getD 1 0 / 3 % 3 = k := ⟨(ns.getD 1 0 / 3 % 3).toNat, by omega⟩
    rw [hk]
    obtain rfl | rfl | rfl : k = 0 ∨ k = 1 ∨ k = 2 := by omega
    · exact ⟨_, rfl, k16_3 (K := 3) hn (by have := cut_len (xs := d) (l := none) (h := some 8); omega) (fun p hp => nl p (cut_mem hp)) (fun p hp => tb p (cut_mem hp)) (by omega) h⟩
    · exact ⟨_, rfl, k16_3 (K := 4) hn (by have := cut_len (xs := d) (l := none) (h := some 5); omega) (fun p hp => nl p (cut_mem hp)) (fun p hp => tb p (cut_mem hp)) (by omega) h⟩
    · exact ⟨_, rfl, k16_3 (K := 5) hn (by have := cut_len (xs := d) (l := none) (h := some 4); omega) (fun p hp => nl p (cut_mem hp)) (fun p hp => tb p (cut_mem hp)) (by omega) h⟩
  · exact k16_3 hn hd nl tb hK h
theorem pure_law (ds : List D) (x : XS) (R : Rt → Prop) (h : SP_law ds x R) : W_law (endsOf R x) (startE 8 ds) := by
  obtain ⟨ns, rfl, hn, q⟩ := h
  simp only [W_law, wVar, wOwn, wC, wOp, onBl, wtOn, wChain, trD, wtVal, wtNot, wAnd, wOr, wAndV, wOrV, wNotV, wIf, wNil, wCons, wTup, wLst, wUn, wNew, gAdd, gInt, gInt0, gMul, gCatF, gRepF, wOpF, gEq, gCmp, gInS, gIsN, isN, gIsB, gIdx, woNone, woSome, gSl, wSl, gSlF, wSlF, wB, wBF, gLen, gInt1, gInt2, gToInt, gListF, tyName, gIsT, wIsT, wCall, Rt.d, Cn.d, onNew, wCallF, wCallN, wCallNF, nlR, wgName, wgNil, wgCons, wgTup, wSeq, wSeqT, wSigns, wRng1, wRng2, wRng3, wRev, wEnum, wZip, wLc, wtYes, wsNil, wsBrk, wsCnt, wsExpr, wsRet, wsRetF, wsRetOwn, wsRetN, wIfS, wsSet, wsSetF, wsAsg, wsPar, wsAug, gApp, gExt, gPop0, gRev, wMut, wsSetIx, wFor, wsRaise, wSeqS, wFrz, wsCallM, wsPopAdd, endsOf, endM, endsM, startM, startE, wipeE, smallI, CPow, Br_true, Br_false, Br_not, rngD_eq, dC, dP, dI, ex_atI_map, atI0, atI1, atI2, kit1, kit2, kit3, kit4, kit5, kit6, kit7, kit8, kit9, kit10, kit11, kit12, kit13, kit14, kit15, kit16, kit17, kit18, kit19, kit20, kit21, kit22, kit23, kit24, kit25, kit26, kit27, kit28, kit29, kit30, kit31, kit32, kit33, kit34, kit35, sizeLine_eq, true_and, and_true, exists_eq_left', Option.some.injEq, List.map_cons, List.map_nil, List.length_cons, List.length_nil, List.length_map, List.length_append, List.cons_append, List.nil_append, List.set_cons_zero, List.set_cons_succ, List.getElem?_cons_zero, List.getElem?_cons_succ, List.getElem?_nil, Nat.reduceSub, Nat.reduceAdd, Nat.zero_add, Nat.sub_self, List.replicate_succ, List.replicate_zero, Bool.false_bne, Bool.true_bne, Bool.false_xor, Bool.true_xor, Bool.not_true, Bool.not_false, Bool.not_not, beq_self_eq_true, Bool.and_true, Bool.true_and, nl, nls, decide_true, decide_false, exists_eq_left, Bool.false_eq_true, Option.some_inj, Int.reduceToNat, Int.reducePow, Int.reduceMul, Int.reduceSub, Int.reduceAdd, Int.reduceNeg, Nat.reducePow, Nat.reduceLeDiff, Int.reduceLE, Int.reduceLT, Int.reduceAbs, Int.natAbs_neg, Nat.reduceLT, divW_eq, mulW_eq, Bool.or_true, Bool.true_or, cut_map, ← List.map_append, ← List.map_reverse, castN, eq_self, Int.reduceEq, deqC, deq_self, rep_map, nls_dP, wsAugIx, tx_cps, tx_len, tx_app, tx_one, tx_nil, tx_cut, tx_signs, tx_rep, lit_empty, tx_inj, wJoin, gJoin, wmCall, wmOpL, wmOpR, wmIxR, wmTup2, wsSetM, wsAppM, wForM, gSum, gAny, gAll, gLtD, gInT, gSorted, gAddT, wThaw, gMaxL, wIsE, wIsV, wCallE, wTry, DEnds.off, gInB, wDct0, wCntB, wIdxB, wTryF, wIdxS, gInX, gIns, gTup, wDct1, gEqR, wsSetG, wgd0, wgdC, wLck, wDctL, wGetD, dctOf, wsSetKey, wItems, wSortI, wsCallMD, endsMD, endMD, startMD, gGtS, wsSetV]
  refine ⟨ns, 0, 63, 12, rfl, hn, by decide, by decide, by decide, by decide, by decide, by decide, fun c hc gc => ?_⟩
  walk_at "s"
  refine ⟨c, rfl, by omega, gc, fun d hd td => ?_⟩
  walk_at "s"
  refine ⟨ns, 1, rfl, by decide, ?_⟩
  walk_at "s"
  obtain ⟨k, hk⟩ : ∃ k : Nat, ns.getD 1 0 / 3 % 3 = k := ⟨(ns.getD 1 0 / 3 % 3).toNat, by omega⟩
  rw [hk]
  have dl : d.length ≤ 12 := by omega
  exact k16_2 hn dl td.1.nl td.tb (by omega) fun _ => q
end NL

namespace NL
open PySem PySem.Spec L2
open PyProof.Rows hiding St

def topS (i : Nat) : Stmt := PySem.Challenge.pw_nailhang_k16_all_rows_of_a_length.main.body.getD i (.Pass ⟨0, 0, 0, 0⟩)
abbrev s_law_tame : Stmt := topS 10
abbrev N_law_tame : List Str := ["_law_cord_here", "_law_found", "_law_nail", "_law_turns"]
theorem sc_law_tame : FnScope N_law_tame ["_law_cord_here"] (defScope s_law_tame) := ⟨rfl, rfl, rfl, by decide +kernel, rfl, by decide +kernel, by decide +kernel⟩
abbrev s_law_at : Stmt := topS 5
abbrev N_law_at : List Str := ["_law_script", "_law_k"]
theorem sc_law_at : FnScope N_law_at ["_law_script", "_law_k"] (defScope s_law_at) := ⟨rfl, rfl, rfl, by decide +kernel, rfl, by decide +kernel, by decide +kernel⟩
abbrev s_law_contrary : Stmt := topS 7
abbrev N_law_contrary : List Str := ["_law_cord_here", "_law_nail", "_law_turns"]
theorem sc_law_contrary : FnScope N_law_contrary ["_law_cord_here"] (defScope s_law_contrary) := ⟨rfl, rfl, rfl, by decide +kernel, rfl, by decide +kernel, by decide +kernel⟩
abbrev s_law_mix : Stmt := topS 6
abbrev N_law_mix : List Str := ["_law_cell", "_law_k", "_law_one"]
theorem sc_law_mix : FnScope N_law_mix ["_law_cell", "_law_k"] (defScope s_law_mix) := ⟨rfl, rfl, rfl, by decide +kernel, rfl, by decide +kernel, by decide +kernel⟩
abbrev s_law_pieces : Stmt := topS 8
abbrev N_law_pieces : List Str := ["_law_cell", "_law_rest", "_law_many", "_law_found", "_law_k", "_law_nail", "_law_value"]
theorem sc_law_pieces : FnScope N_law_pieces ["_law_cell"] (defScope s_law_pieces) := ⟨rfl, rfl, rfl, by decide +kernel, rfl, by decide +kernel, by decide +kernel⟩
abbrev s_law_cord : Stmt := topS 9
abbrev N_law_cord : List Str := ["_law_script", "_law_first", "_law_last", "_law_most", "_law_cord_here", "_law_cell", "_law_at_here", "_law_pieces_here"]
theorem sc_law_cord : FnScope N_law_cord ["_law_script", "_law_first", "_law_last", "_law_most"] (defScope s_law_cord) := ⟨rfl, rfl, rfl, by decide +kernel, rfl, by decide +kernel, by decide +kernel⟩
abbrev s_law_more : Stmt := topS 14
abbrev N_law_more : List Str := ["_law_rows", "_law_nails", "_law_found", "_law_row", "_law_nail"]
theorem sc_law_more : FnScope N_law_more ["_law_rows", "_law_nails"] (defScope s_law_more) := ⟨rfl, rfl, rfl, by decide +kernel, rfl, by decide +kernel, by decide +kernel⟩
abbrev s_law_chosen : Stmt := topS 11
abbrev N_law_chosen : List Str := ["_law_turns", "_law_many", "_law_above", "_law_below", "_law_k"]
theorem sc_law_chosen : FnScope N_law_chosen ["_law_turns", "_law_many"] (defScope s_law_chosen) := ⟨rfl, rfl, rfl, by decide +kernel, rfl, by decide +kernel, by decide +kernel⟩
abbrev s_law_times : Stmt := topS 12
abbrev N_law_times : List Str := ["_law_row", "_law_cord_here", "_law_sums", "_law_nail", "_law_turns", "_law_later", "_law_end", "_law_many", "_law_more_here"]
theorem sc_law_times : FnScope N_law_times ["_law_row", "_law_cord_here"] (defScope s_law_times) := ⟨rfl, rfl, rfl, by decide +kernel, rfl, by decide +kernel, by decide +kernel⟩
abbrev s_law_due : Stmt := topS 13
abbrev N_law_due : List Str := ["_law_cord_here", "_law_length", "_law_rows", "_law_nails", "_law_k", "_law_found", "_law_nail", "_law_turns", "_law_row", "_law_pair"]
theorem sc_law_due : FnScope N_law_due ["_law_cord_here", "_law_length"] (defScope s_law_due) := ⟨rfl, rfl, rfl, by decide +kernel, rfl, by decide +kernel, by decide +kernel⟩
abbrev s_chosen : Stmt := topS 1
abbrev N_chosen : List Str := ["turns", "many", "times", "k"]
theorem sc_chosen : FnScope N_chosen ["turns", "many"] (defScope s_chosen) := ⟨rfl, rfl, rfl, by decide +kernel, rfl, by decide +kernel, by decide +kernel⟩
abbrev s_longer : Stmt := topS 2
abbrev N_longer : List Str := ["counts", "nail", "turns", "length", "found", "row", "times", "many", "more"]
theorem sc_longer : FnScope N_longer ["counts", "nail", "turns", "length"] (defScope s_longer) := ⟨rfl, rfl, rfl, by decide +kernel, rfl, by decide +kernel, by decide +kernel⟩
abbrev s_rows_in : Stmt := topS 3
abbrev N_rows_in : List Str := ["cord", "length", "counts", "found", "nail", "turns", "row", "times"]
theorem sc_rows_in : FnScope N_rows_in ["cord", "length"] (defScope s_rows_in) := ⟨rfl, rfl, rfl, by decide +kernel, rfl, by decide +kernel, by decide +kernel⟩
abbrev s_law_right : Stmt := topS 15
abbrev N_law_right : List Str := ["_law_found", "_law_due_here", "_law_k"]
theorem sc_law_right : FnScope N_law_right ["_law_found", "_law_due_here"] (defScope s_law_right) := ⟨rfl, rfl, rfl, by decide +kernel, rfl, by decide +kernel, by decide +kernel⟩
abbrev s_law : Stmt := topS 16
abbrev N_law : List Str := ["_law_script", "_law_cord_here", "_law_length", "_law_due_here", "_law_handed", "_law_found", "_law_nail", "_law_turns"]
theorem sc_law : FnScope N_law ["_law_script"] (defScope s_law) := ⟨rfl, rfl, rfl, by decide +kernel, rfl, by decide +kernel, by decide +kernel⟩
structure Txt (K : PySem.W.Frag) (mg : Str → Option Value) (fa : Nat → Addr) (fd : Nat → FuncData) (ca : Nat → Addr) : Prop where
  m_abs : mg "abs" = none
  m_bool : mg "bool" = none
  m_dict : mg "dict" = none
  m_int : mg "int" = none
  m_isinstance : mg "isinstance" = none
  m_len : mg "len" = none
  m_list : mg "list" = none
  m_range : mg "range" = none
  m_reversed : mg "reversed" = none
  m_sorted : mg "sorted" = none
  m_str : mg "str" = none
  m_tuple : mg "tuple" = none
  g_law_tame : mg "_law_tame" = some (.ref (fa 0))
  F_law_tame : Fun K "_law_tame" "_law_tame" s_law_tame (fa 0) (fd 0)
  b_law_tame : Binds K (fd 0) ["_law_cord_here"] []
  g_law_at : mg "_law_at" = some (.ref (fa 1))
  F_law_at : Fun K "_law_at" "_law_at" s_law_at (fa 1) (fd 1)
  b_law_at : Binds K (fd 1) ["_law_script", "_law_k"] []
  g_law_contrary : mg "_law_contrary" = some (.ref (fa 2))
  F_law_contrary : Fun K "_law_contrary" "_law_contrary" s_law_contrary (fa 2) (fd 2)
  b_law_contrary : Binds K (fd 2) ["_law_cord_here"] []
  g_law_mix : mg "_law_mix" = some (.ref (fa 3))
  F_law_mix : Fun K "_law_mix" "_law_mix" s_law_mix (fa 3) (fd 3)
  b_law_mix : Binds K (fd 3) ["_law_cell", "_law_k"] []
  g_law_pieces : mg "_law_pieces" = some (.ref (fa 4))
  F_law_pieces : Fun K "_law_pieces" "_law_pieces" s_law_pieces (fa 4) (fd 4)
  b_law_pieces : Binds K (fd 4) ["_law_cell"] []
  g_law_cord : mg "_law_cord" = some (.ref (fa 5))
  F_law_cord : Fun K "_law_cord" "_law_cord" s_law_cord (fa 5) (fd 5)
  b_law_cord : Binds K (fd 5) ["_law_script", "_law_first", "_law_last", "_law_most"] []
  g_law_more : mg "_law_more" = some (.ref (fa 6))
  F_law_more : Fun K "_law_more" "_law_more" s_law_more (fa 6) (fd 6)
  b_law_more : Binds K (fd 6) ["_law_rows", "_law_nails"] []
  g_law_chosen : mg "_law_chosen" = some (.ref (fa 7))
  F_law_chosen : Fun K "_law_chosen" "_law_chosen" s_law_chosen (fa 7) (fd 7)
  b_law_chosen : Binds K (fd 7) ["_law_turns", "_law_many"] []
  g_law_times : mg "_law_times" = some (.ref (fa 8))
  F_law_times : Fun K "_law_times" "_law_times" s_law_times (fa 8) (fd 8)
  b_law_times : Binds K (fd 8) ["_law_row", "_law_cord_here"] []
  g_law_due : mg "_law_due" = some (.ref (fa 9))
  F_law_due : Fun K "_law_due" "_law_due" s_law_due (fa 9) (fd 9)
  b_law_due : Binds K (fd 9) ["_law_cord_here", "_law_length"] []
  g_chosen : mg "chosen" = some (.ref (fa 10))
  F_chosen : Fun K "chosen" "chosen" s_chosen (fa 10) (fd 10)
  b_chosen : Binds K (fd 10) ["turns", "many"] []
  g_longer : mg "longer" = some (.ref (fa 11))
  F_longer : Fun K "longer" "longer" s_longer (fa 11) (fd 11)
  b_longer : Binds K (fd 11) ["counts", "nail", "turns", "length"] []
  g_rows_in : mg "rows_in" = some (.ref (fa 12))
  F_rows_in : Fun K "rows_in" "rows_in" s_rows_in (fa 12) (fd 12)
  b_rows_in : Binds K (fd 12) ["cord", "length"] []
  g_law_right : mg "_law_right" = some (.ref (fa 13))
  F_law_right : Fun K "_law_right" "_law_right" s_law_right (fa 13) (fd 13)
  b_law_right : Binds K (fd 13) ["_law_found", "_law_due_here"] []
  g_law : mg "law" = some (.ref (fa 14))
  F_law : Fun K "law" "law" s_law (fa 14) (fd 14)
  b_law : Binds K (fd 14) ["_law_script"] []
section
variable {P : Program} {w : World} {K : PySem.W.Frag} {mg : Str → Option Value} {base : Heap} {fa : Nat → Addr} {fd : Nat → FuncData} {ca : Nat → Addr} {tb : List (Addr × Str)} {cc : Str → Addr}
theorem ok_law_tame (T : Txt K mg fa fd ca) : FnOk P w K mg base (L2.CX P w) 1 (fa 0) (fd 0) ["_law_cord_here"] (@spOf ⟨K, tb, cc⟩ mg SP_law_tame) := by
  letI : KC := ⟨K, tb, cc⟩
  have nd := sc_law_tame.nd
  refine fn_ok T.F_law_tame sc_law_tame len_law_tame (fun cdv A outer s H E hr xk => ⟨W_law_tame, ?_, pure_law_tame⟩)
  exact (sds_cons (sd_if (td_cmp dLt (bd (ed_callB cLen rfl T.m_len (by decide +kernel) (ab_cons (bd (ed_var 0)) ab_nil))) (bd ed_int))
  (sds_one (sd_ret (ed_var 0)))
  sds_nil)
  (sds_cons (sd_setF 1 nd (df_lst ad_nil))
  (sds_cons (sd_for xk rfl (id_list (ed_var 0)) (gd_tup rfl (gds_cons (gd_name 2 nd) (gds_cons (gd_name 3 nd) gds_nil)))
  (sds_one (sd_if (td_cmp dLt (bd (ed_var 3)) (bd ed_int))
  (sds_one (sd_mut 1 mApp PySem.F.slot_list_append PySem.F.type_list_append (ad_cons (ed_tup (ad_cons (ed_var 2) (ad_cons (ed_op dSub (bd ed_int) (bd (ed_op dMod (bd (ed_op dSub (bd ed_int) (bd (ed_var 3)))) (bd ed_int)))) ad_nil))) ad_nil)))
  (sds_one (sd_mut 1 mApp PySem.F.slot_list_append PySem.F.type_list_append (ad_cons (ed_tup (ad_cons (ed_var 2) (ad_cons (ed_op dMod (bd (ed_var 3)) (bd ed_int)) ad_nil))) ad_nil))))))
  (sds_frz 1 (sds_one (sd_ret (ed_var 1)))))))
theorem ok_law_at (T : Txt K mg fa fd ca) : FnOk P w K mg base (L2.CX P w) 1 (fa 1) (fd 1) ["_law_script", "_law_k"] (@spOf ⟨K, tb, cc⟩ mg SP_law_at) := by
  letI : KC := ⟨K, tb, cc⟩
  have nd := sc_law_at.nd
  refine fn_ok T.F_law_at sc_law_at len_law_at (fun cdv A outer s H E hr xk => ⟨W_law_at, ?_, pure_law_at⟩)
  exact (sds_cons (sd_if (td_cmp dLt (bd (ed_var 1)) (bd (ed_callB cLen rfl T.m_len (by decide +kernel) (ab_cons (bd (ed_var 0)) ab_nil))))
  (sds_one (sd_ret (ed_ix (bd (ed_var 0)) (bd (ed_var 1)))))
  sds_nil)
  (sds_one (sd_ret ed_int)))
theorem ok_law_contrary (T : Txt K mg fa fd ca) : FnOk P w K mg base (L2.CX P w) 1 (fa 2) (fd 2) ["_law_cord_here"] (@spOf ⟨K, tb, cc⟩ mg SP_law_contrary) := by
  letI : KC := ⟨K, tb, cc⟩
  have nd := sc_law_contrary.nd
  refine fn_ok T.F_law_contrary sc_law_contrary len_law_contrary (fun cdv A outer s H E hr xk => ⟨W_law_contrary, ?_, pure_law_contrary⟩)
  exact (sds_one (sd_retF (df_lc rfl nd (id_rev rfl T.m_reversed (ed_var 0)) (blkOk_by (own := [("_law_nail", 1), ("_law_turns", 2)]) (N := N_law_contrary) (sc := defScope s_law_contrary) (by decide +kernel)) (fun _ _ _ _ _ => (gd_tup rfl (gds_cons (gd_name 1 nd) (gds_cons (gd_name 2 nd) gds_nil)))) (fun _ _ _ _ _ => (ed_tup (ad_cons (ed_var 1) (ad_cons (ed_op dSub (bd ed_int) (bd (ed_var 2))) ad_nil)))))))
theorem ok_law_mix (T : Txt K mg fa fd ca) : FnOk P w K mg base (L2.CX P w) 1 (fa 3) (fd 3) ["_law_cell", "_law_k"] (@spOf ⟨K, tb, cc⟩ mg SP_law_mix) := by
  letI : KC := ⟨K, tb, cc⟩
  have nd := sc_law_mix.nd
  refine fn_ok T.F_law_mix sc_law_mix len_law_mix (fun cdv A outer s H E hr xk => ⟨W_law_mix, ?_, pure_law_mix⟩)
  exact (sds_cons (sd_set 2 nd (ed_op dMod (bd (ed_op dAdd (bd (ed_op dAdd (bd (ed_op dMul (bd (ed_op dMod (bd (ed_var 0)) (bd (ed_op dPow (bd ed_int) (bd ed_int))))) (bd (ed_op dAdd (bd ed_int) (bd (ed_op dMul (bd ed_int) (bd (ed_var 1)))))))) (bd (ed_op dMul (bd ed_int) (bd (ed_var 1)))))) (bd ed_int))) (bd ed_int)))
  (sds_one (sd_ret (ed_op dMod (bd (ed_op dMul (bd (ed_var 2)) (bd (ed_op dAdd (bd (ed_op dAdd (bd (ed_op dDiv (bd (ed_var 2)) (bd ed_int))) (bd (ed_op dMul (bd ed_int) (bd (ed_var 1)))))) (bd ed_int))))) (bd ed_int)))))
theorem ok_law_pieces (T : Txt K mg fa fd ca) : FnOk P w K mg base (L2.CX P w) 2 (fa 4) (fd 4) ["_law_cell"] (@spOf ⟨K, tb, cc⟩ mg SP_law_pieces) := by
  letI : KC := ⟨K, tb, cc⟩
  have nd := sc_law_pieces.nd
  refine fn_ok T.F_law_pieces sc_law_pieces len_law_pieces (fun cdv A outer s H E hr xk => ⟨W_law_pieces, ?_, pure_law_pieces⟩)
  exact (sds_cons (sd_set 1 nd (ed_op dDiv (bd (ed_var 0)) (bd ed_int)))
  (sds_cons (sd_if (td_cmp (dEq hr) (bd (ed_op dMod (bd (ed_var 0)) (bd ed_int))) (bd ed_int))
  (sds_cons (sd_set 5 nd (ed_ix (bd ed_str) (bd (ed_op dMod (bd (ed_var 1)) (bd ed_int)))))
  (sds_one (sd_retF (df_lst (ad_cons (ed_tup (ad_cons (ed_var 5) (ad_cons (ed_op dSub (bd (ed_op dMod (bd (ed_op dDiv (bd (ed_var 1)) (bd ed_int))) (bd (ed_op dSub (bd (ed_op dMul (bd ed_int) (bd (ed_op dPow (bd ed_int) (bd ed_int))))) (bd ed_int))))) (bd (ed_op dSub (bd (ed_op dPow (bd ed_int) (bd ed_int))) (bd ed_int)))) ad_nil))) ad_nil)))))
  sds_nil)
  (sds_cons (sd_set 2 nd (ed_op dMod (bd (ed_var 1)) (bd ed_int)))
  (sds_cons (sd_set 1 nd (ed_op dDiv (bd (ed_var 1)) (bd ed_int)))
  (sds_cons (sd_setF 3 nd (df_lst ad_nil))
  (sds_cons (sd_for xk rfl (id_range1 rfl T.m_range (ed_var 2)) (gd_name 4 nd)
  (sds_cons (sd_set 6 nd (ed_var 1))
  (sds_cons (sd_if (td_w (wd_or (td_cmp dLt (bd (ed_callB cAbs rfl T.m_abs (by decide +kernel) (ab_cons (bd (ed_var 0)) ab_nil))) (bd (ed_op dPow (bd ed_int) (bd ed_int)))) (wd_or1 (td_chain dLt dLt (bd (ed_un un_neg ed_int)) (bd (ed_var 1)) (bd ed_int)))))
  (sds_one (sd_set 6 nd (ed_call (ok_law_mix T) (hr.mono (by omega)) xk rfl T.g_law_mix T.F_law_mix.kp T.b_law_mix (ad_cons (ed_var 0) (ad_cons (ed_var 4) ad_nil)))))
  sds_nil)
  (sds_cons (sd_mut 3 mApp PySem.F.slot_list_append PySem.F.type_list_append (ad_cons (ed_tup (ad_cons (ed_ix (bd ed_str) (bd (ed_op dMod (bd (ed_var 6)) (bd ed_int)))) (ad_cons (ed_op dSub (bd (ed_op dMod (bd (ed_op dDiv (bd (ed_var 6)) (bd ed_int))) (bd ed_int))) (bd ed_int)) ad_nil))) ad_nil))
  (sds_one (sd_set 1 nd (ed_op dDiv (bd (ed_var 1)) (bd ed_int))))))))
  (sds_one (sd_retOwn 3))))))))
theorem ok_law_cord (T : Txt K mg fa fd ca) : FnOk P w K mg base (L2.CX P w) 3 (fa 5) (fd 5) ["_law_script", "_law_first", "_law_last", "_law_most"] (@spOf ⟨K, tb, cc⟩ mg SP_law_cord) := by
  letI : KC := ⟨K, tb, cc⟩
  have nd := sc_law_cord.nd
  refine fn_ok T.F_law_cord sc_law_cord len_law_cord (fun cdv A outer s H E hr xk => ⟨W_law_cord, ?_, pure_law_cord⟩)
  exact (sds_cons (sd_set 4 nd (ed_new (df_lst ad_nil)))
  (sds_cons (sd_for xk rfl (id_list (ed_op dAdd (bd (ed_new (df_lst (ad_cons (ed_call (ok_law_at T) (hr.mono (by omega)) xk rfl T.g_law_at T.F_law_at.kp T.b_law_at (ad_cons (ed_var 0) (ad_cons (ed_var 1) ad_nil))) ad_nil)))) (bd (ed_sl (bd (ed_var 0)) (od_some (bd (ed_op dAdd (bd (ed_var 1)) (bd ed_int)))) (od_some (bd (ed_var 2))))))) (gd_name 5 nd)
  (sds_cons (sd_set 6 nd (ed_op dMod (bd (ed_op dDiv (bd (ed_var 5)) (bd ed_int))) (bd (ed_op dAdd (bd (ed_callB cLen rfl T.m_len (by decide +kernel) (ab_cons (bd (ed_var 4)) ab_nil))) (bd ed_int)))))
  (sds_cons (sd_if (td_cmp (dEq hr) (bd (ed_op dMod (bd (ed_var 5)) (bd ed_int))) (bd ed_int))
  (sds_one (sd_set 4 nd (ed_op dAdd (bd (ed_var 4)) (bd (ed_call (ok_law_contrary T) (hr.mono (by omega)) xk rfl T.g_law_contrary T.F_law_contrary.kp T.b_law_contrary (ad_cons (ed_sl (bd (ed_var 4)) (od_some (bd (ed_var 6))) od_none) ad_nil))))))
  (sds_one (sd_if (td_cmp (dEq hr) (bd (ed_op dMod (bd (ed_var 5)) (bd ed_int))) (bd ed_int))
  (sds_cons (sd_set 7 nd (ed_call (ok_law_pieces T) (hr.mono (by omega)) xk rfl T.g_law_pieces T.F_law_pieces.kp T.b_law_pieces (ad_cons (ed_op dDiv (bd (ed_var 5)) (bd ed_int)) ad_nil)))
  (sds_cons (sd_set 7 nd (ed_op dAdd (bd (ed_var 7)) (bd (ed_call (ok_law_contrary T) (hr.mono (by omega)) xk rfl T.g_law_contrary T.F_law_contrary.kp T.b_law_contrary (ad_cons (ed_var 7) ad_nil)))))
  (sds_one (sd_set 4 nd (ed_op dAdd (bd (ed_op dAdd (bd (ed_sl (bd (ed_var 4)) od_none (od_some (bd (ed_var 6))))) (bd (ed_var 7)))) (bd (ed_sl (bd (ed_var 4)) (od_some (bd (ed_var 6))) od_none)))))))
  (sds_one (sd_set 4 nd (ed_op dAdd (bd (ed_var 4)) (bd (ed_call (ok_law_pieces T) (hr.mono (by omega)) xk rfl T.g_law_pieces T.F_law_pieces.kp T.b_law_pieces (ad_cons (ed_var 5) ad_nil)))))))))
  (sds_one (sd_set 4 nd (ed_sl (bd (ed_var 4)) od_none (od_some (bd (ed_var 3)))))))))
  (sds_one (sd_ret (ed_var 4)))))
theorem ok_law_more (T : Txt K mg fa fd ca) : FnOk P w K mg base (L2.CX P w) 1 (fa 6) (fd 6) ["_law_rows", "_law_nails"] (@spOf ⟨K, tb, cc⟩ mg SP_law_more) := by
  letI : KC := ⟨K, tb, cc⟩
  have nd := sc_law_more.nd
  refine fn_ok T.F_law_more sc_law_more len_law_more (fun cdv A outer s H E hr xk => ⟨W_law_more, ?_, pure_law_more⟩)
  exact (sds_cons (sd_setF 2 nd (df_lst ad_nil))
  (sds_cons (sd_for xk rfl (id_list (ed_var 0)) (gd_name 3 nd)
  (sds_one (sd_for xk rfl (id_list (ed_var 1)) (gd_name 4 nd)
  (sds_one (sd_mut 2 mApp PySem.F.slot_list_append PySem.F.type_list_append (ad_cons (ed_op dAdd (bd (ed_var 3)) (bd (ed_var 4))) ad_nil))))))
  (sds_one (sd_retOwn 2))))
theorem ok_law_chosen (T : Txt K mg fa fd ca) : FnOk P w K mg base (L2.CX P w) 1 (fa 7) (fd 7) ["_law_turns", "_law_many"] (@spOf ⟨K, tb, cc⟩ mg SP_law_chosen) := by
  letI : KC := ⟨K, tb, cc⟩
  have nd := sc_law_chosen.nd
  refine fn_ok T.F_law_chosen sc_law_chosen len_law_chosen (fun cdv A outer s H E hr xk => ⟨W_law_chosen, ?_, pure_law_chosen⟩)
  exact (sds_cons (sd_set 2 nd ed_int)
  (sds_cons (sd_set 3 nd ed_int)
  (sds_cons (sd_for xk rfl (id_range1 rfl T.m_range (ed_var 1)) (gd_name 4 nd)
  (sds_cons (sd_set 2 nd (ed_op dMul (bd (ed_var 2)) (bd (ed_op dSub (bd (ed_var 0)) (bd (ed_var 4))))))
  (sds_one (sd_set 3 nd (ed_op dMul (bd (ed_var 3)) (bd (ed_op dAdd (bd (ed_var 4)) (bd ed_int))))))))
  (sds_one (sd_ret (ed_op dDiv (bd (ed_var 2)) (bd (ed_var 3))))))))
theorem ok_law_times (T : Txt K mg fa fd ca) : FnOk P w K mg base (L2.CX P w) 2 (fa 8) (fd 8) ["_law_row", "_law_cord_here"] (@spOf ⟨K, tb, cc⟩ mg SP_law_times) := by
  letI : KC := ⟨K, tb, cc⟩
  have nd := sc_law_times.nd
  refine fn_ok T.F_law_times sc_law_times len_law_times (fun cdv A outer s H E hr xk => ⟨W_law_times, ?_, pure_law_times⟩)
  exact (sds_cons (sd_set 2 nd (ed_op dAdd (bd (ed_new (df_lst (ad_cons ed_int ad_nil)))) (bd (ed_op dMul (bd (ed_new (df_lst (ad_cons ed_int ad_nil)))) (bd (ed_callB cLen rfl T.m_len (by decide +kernel) (ab_cons (bd (ed_var 0)) ab_nil)))))))
  (sds_cons (sd_for xk rfl (id_list (ed_var 1)) (gd_tup rfl (gds_cons (gd_name 3 nd) (gds_cons (gd_name 4 nd) gds_nil)))
  (sds_cons (sd_setF 5 nd (df_callT cListF rfl T.m_list (by decide +kernel) (ab_cons (bd (ed_var 2)) ab_nil)))
  (sds_cons (sd_for xk rfl (id_range2 rfl T.m_range ed_int (ed_op dAdd (bd (ed_callB cLen rfl T.m_len (by decide +kernel) (ab_cons (bd (ed_var 0)) ab_nil))) (bd ed_int))) (gd_name 6 nd)
  (sds_cons (sd_set 7 nd ed_int)
  (sds_one (sd_while xk (td_w (wd_and (td_cmp dLe (bd (ed_var 7)) (bd (ed_var 6))) (wd_and1 (td_cmp (dEq hr) (bd (ed_ix (bd (ed_var 0)) (bd (ed_op dSub (bd (ed_var 6)) (bd (ed_var 7)))))) (bd (ed_var 3))))))
  (sds_cons (sd_set 8 nd (ed_call (ok_law_chosen T) (hr.mono (by omega)) xk rfl T.g_law_chosen T.F_law_chosen.kp T.b_law_chosen (ad_cons (ed_var 4) (ad_cons (ed_var 7) ad_nil))))
  (sds_cons (sd_setIx 5 (ed_op dAdd (bd (ed_ix (bd_own 5) (bd (ed_var 6)))) (bd (ed_op dMul (bd (ed_ix (bd (ed_var 2)) (bd (ed_op dSub (bd (ed_var 6)) (bd (ed_var 7)))))) (bd (ed_var 8))))) (ed_var 6))
  (sds_one (sd_set 7 nd (ed_op dAdd (bd (ed_var 7)) (bd ed_int))))))))))
  (sds_frz 5 (sds_one (sd_set 2 nd (ed_var 5)))))))
  (sds_one (sd_ret (ed_ix (bd (ed_var 2)) (bd (ed_callB cLen rfl T.m_len (by decide +kernel) (ab_cons (bd (ed_var 0)) ab_nil))))))))
theorem ok_law_due (T : Txt K mg fa fd ca) : FnOk P w K mg base (L2.CX P w) 3 (fa 9) (fd 9) ["_law_cord_here", "_law_length"] (@spOf ⟨K, tb, cc⟩ mg SP_law_due) := by
  letI : KC := ⟨K, tb, cc⟩
  have nd := sc_law_due.nd
  refine fn_ok T.F_law_due sc_law_due len_law_due (fun cdv A outer s H E hr xk => ⟨W_law_due, ?_, pure_law_due⟩)
  exact (sds_cons (sd_set 2 nd (ed_new (df_lst (ad_cons ed_str ad_nil))))
  (sds_cons (sd_setF 3 nd (df_lst ad_nil))
  (sds_cons (sd_for xk rfl (id_list (ed_var 0)) (gd_tup rfl (gds_cons (gd_name 6 nd) (gds_cons (gd_name 7 nd) gds_nil)))
  (sds_one (sd_if (td_cmp dNotInT (bd (ed_var 6)) (bd_own 3))
  (sds_one (sd_mut 3 mApp PySem.F.slot_list_append PySem.F.type_list_append (ad_cons (ed_var 6) ad_nil)))
  sds_nil)))
  (sds_cons (sd_for xk rfl (id_range1 rfl T.m_range (ed_var 1)) (gd_name 4 nd)
  (sds_one (sd_set 2 nd (ed_callN (ok_law_more T) (hr.mono (by omega)) xk rfl T.g_law_more T.F_law_more.kp T.b_law_more (ab_cons (bd (ed_var 2)) (ab_cons (bd_own 3) ab_nil))))))
  (sds_cons (sd_setLc 5 rfl nd (id_list (ed_var 2)) (blkOk_by (own := [("_law_row", 8)]) (N := N_law_due) (sc := defScope s_law_due) (by decide +kernel)) (fun _ _ _ _ _ => (gd_name 8 nd)) (fun _ _ _ _ _ => (ed_tup (ad_cons (ed_var 8) (ad_cons (ed_call (ok_law_times T) (hr.mono (by omega)) xkb rfl T.g_law_times T.F_law_times.kp T.b_law_times (ad_cons (ed_var 8) (ad_cons (ed_var 0) ad_nil))) ad_nil)))))
  (sds_frz 5 (sds_one (sd_retF (df_callB (cSorted hr) rfl T.m_sorted (by decide +kernel) (ab_cons (bd (ed_new (df_lcIf rfl nd (id_list (ed_var 5)) (blkOk_by (own := [("_law_pair", 9)]) (N := N_law_due) (sc := defScope s_law_due) (by decide +kernel)) (fun _ _ _ _ _ => (gd_name 9 nd)) (fun _ _ _ _ _ => (td_cmp (dNe hr) (bd (ed_ix (bd (ed_var 9)) (bd ed_int))) (bd ed_int))) (fun _ _ _ _ _ => (ed_var 9))))) ab_nil))))))))))
theorem ok_chosen (T : Txt K mg fa fd ca) : FnOk P w K mg base (L2.CX P w) 1 (fa 10) (fd 10) ["turns", "many"] (@spOf ⟨K, tb, cc⟩ mg SP_chosen) := by
  letI : KC := ⟨K, tb, cc⟩
  have nd := sc_chosen.nd
  refine fn_ok T.F_chosen sc_chosen len_chosen (fun cdv A outer s H E hr xk => ⟨W_chosen, ?_, pure_chosen⟩)
  exact (sds_cons (sd_set 2 nd ed_int)
  (sds_cons (sd_for xk rfl (id_range1 rfl T.m_range (ed_var 1)) (gd_name 3 nd)
  (sds_one (sd_set 2 nd (ed_op dDiv (bd (ed_op dMul (bd (ed_var 2)) (bd (ed_op dSub (bd (ed_var 0)) (bd (ed_var 3)))))) (bd (ed_op dAdd (bd (ed_var 3)) (bd ed_int)))))))
  (sds_one (sd_ret (ed_var 2)))))
theorem ok_longer (T : Txt K mg fa fd ca) : FnOk P w K mg base (L2.CX P w) 2 (fa 11) (fd 11) ["counts", "nail", "turns", "length"] (@spOf ⟨K, tb, cc⟩ mg SP_longer) := by
  letI : KC := ⟨K, tb, cc⟩
  have nd := sc_longer.nd
  refine fn_ok T.F_longer sc_longer len_longer (fun cdv A outer s H E hr xk => ⟨W_longer, ?_, pure_longer⟩)
  exact (sds_cons (sd_setG 4 nd (dg_copy rfl T.m_dict (bd (ed_var 0))))
  (sds_cons (sd_for xk rfl (id_items (ed_var 0)) (gd_tup rfl (gds_cons (gd_name 5 nd) (gds_cons (gd_name 6 nd) gds_nil)))
  (sds_one (sd_for xk rfl (id_range2 rfl T.m_range ed_int (ed_op dAdd (bd (ed_op dSub (bd (ed_var 3)) (bd (ed_callB cLen rfl T.m_len (by decide +kernel) (ab_cons (bd (ed_var 5)) ab_nil))))) (bd ed_int))) (gd_name 7 nd)
  (sds_cons (sd_set 8 nd (ed_op dAdd (bd (ed_var 5)) (bd (ed_op dMul (bd (ed_var 1)) (bd (ed_var 7))))))
  (sds_one (sd_setKey 4 hr (ed_op dAdd (bd (ed_getD hr (bd_own 4) (ed_var 8) ed_int)) (bd (ed_op dMul (bd (ed_var 6)) (bd (ed_call (ok_chosen T) (hr.mono (by omega)) xk rfl T.g_chosen T.F_chosen.kp T.b_chosen (ad_cons (ed_var 2) (ad_cons (ed_var 7) ad_nil))))))) (ed_var 8)))))))
  (sds_lck 4 (sds_one (sd_ret (ed_var 4))))))
theorem ok_rows_in (T : Txt K mg fa fd ca) : FnOk P w K mg base (L2.CX P w) 3 (fa 12) (fd 12) ["cord", "length"] (@spOf ⟨K, tb, cc⟩ mg SP_rows_in) := by
  letI : KC := ⟨K, tb, cc⟩
  have nd := sc_rows_in.nd
  refine fn_ok T.F_rows_in sc_rows_in len_rows_in (fun cdv A outer s H E hr xk => ⟨W_rows_in, ?_, pure_rows_in⟩)
  exact (sds_cons (sd_set 2 nd (ed_dctL ed_str ed_int))
  (sds_cons (sd_for xk rfl (id_list (ed_var 0)) (gd_tup rfl (gds_cons (gd_name 4 nd) (gds_cons (gd_name 5 nd) gds_nil)))
  (sds_one (sd_set 2 nd (ed_call (ok_longer T) (hr.mono (by omega)) xk rfl T.g_longer T.F_longer.kp T.b_longer (ad_cons (ed_var 2) (ad_cons (ed_var 4) (ad_cons (ed_var 5) (ad_cons (ed_var 1) ad_nil))))))))
  (sds_cons (sd_setF 3 nd (df_lst ad_nil))
  (sds_cons (sd_for xk rfl (id_items (ed_var 2)) (gd_tup rfl (gds_cons (gd_name 6 nd) (gds_cons (gd_name 7 nd) gds_nil)))
  (sds_one (sd_if (td_w (wd_and (td_cmp (dEq hr) (bd (ed_callB cLen rfl T.m_len (by decide +kernel) (ab_cons (bd (ed_var 6)) ab_nil))) (bd (ed_var 1))) (wd_and1 (td_cmp (dNe hr) (bd (ed_var 7)) (bd ed_int)))))
  (sds_one (sd_mut 3 mApp PySem.F.slot_list_append PySem.F.type_list_append (ad_cons (ed_tup (ad_cons (ed_var 6) (ad_cons (ed_var 7) ad_nil))) ad_nil)))
  sds_nil)))
  (sds_one (sd_retF (df_callB (cSorted hr) rfl T.m_sorted (by decide +kernel) (ab_cons (bd_own 3) ab_nil))))))))
theorem ok_law_right (T : Txt K mg fa fd ca) : FnOk P w K mg base (L2.CX P w) 1 (fa 13) (fd 13) ["_law_found", "_law_due_here"] (@spOf ⟨K, tb, cc⟩ mg SP_law_right) := by
  letI : KC := ⟨K, tb, cc⟩
  have nd := sc_law_right.nd
  refine fn_ok T.F_law_right sc_law_right len_law_right (fun cdv A outer s H E hr xk => ⟨W_law_right, ?_, pure_law_right⟩)
  exact (sds_cons (sd_if (td_w (wd_or (td_not (td_val (bd (ed_isT rfl T.m_isinstance rfl T.m_list (by decide +kernel) (bd (ed_var 0)))))) (wd_or1 (td_cmp (dNe hr) (bd (ed_callB cLen rfl T.m_len (by decide +kernel) (ab_cons (bd (ed_var 0)) ab_nil))) (bd (ed_callB cLen rfl T.m_len (by decide +kernel) (ab_cons (bd (ed_var 1)) ab_nil)))))))
  (sds_one (sd_ret ed_bl))
  sds_nil)
  (sds_cons (sd_for xk rfl (id_range1 rfl T.m_range (ed_callB cLen rfl T.m_len (by decide +kernel) (ab_cons (bd (ed_var 1)) ab_nil))) (gd_name 2 nd)
  (sds_cons (sd_if (td_w (wd_or (td_not (td_val (bd (ed_isT rfl T.m_isinstance rfl T.m_tuple (by decide +kernel) (bd (ed_ix (bd (ed_var 0)) (bd (ed_var 2)))))))) (wd_or (td_cmp (dNe hr) (bd (ed_callB cLen rfl T.m_len (by decide +kernel) (ab_cons (bd (ed_ix (bd (ed_var 0)) (bd (ed_var 2)))) ab_nil))) (bd ed_int)) (wd_or1 (td_not (td_val (bd (ed_isT rfl T.m_isinstance rfl T.m_str (by decide +kernel) (bd (ed_ix (bd (ed_ix (bd (ed_var 0)) (bd (ed_var 2)))) (bd ed_int)))))))))))
  (sds_one (sd_ret ed_bl))
  sds_nil)
  (sds_one (sd_if (td_w (wd_or (td_not (td_val (bd (ed_isT rfl T.m_isinstance rfl T.m_int (by decide +kernel) (bd (ed_ix (bd (ed_ix (bd (ed_var 0)) (bd (ed_var 2)))) (bd ed_int))))))) (wd_or (td_val (bd (ed_isT rfl T.m_isinstance rfl T.m_bool (by decide +kernel) (bd (ed_ix (bd (ed_ix (bd (ed_var 0)) (bd (ed_var 2)))) (bd ed_int)))))) (wd_or1 (td_cmp (dNe hr) (bd (ed_ix (bd (ed_var 0)) (bd (ed_var 2)))) (bd (ed_ix (bd (ed_var 1)) (bd (ed_var 2)))))))))
  (sds_one (sd_ret ed_bl))
  sds_nil))))
  (sds_one (sd_ret ed_bl))))
theorem ok_law (T : Txt K mg fa fd ca) : FnOk P w K mg base (L2.CX P w) 4 (fa 14) (fd 14) ["_law_script"] (@spOf ⟨K, tb, cc⟩ mg SP_law) := by
  letI : KC := ⟨K, tb, cc⟩
  have nd := sc_law.nd
  refine fn_ok T.F_law sc_law len_law (fun cdv A outer s H E hr xk => ⟨W_law, ?_, pure_law⟩)
  exact (sds_cons (sd_set 1 nd (ed_call (ok_law_tame T) (hr.mono (by omega)) xk rfl T.g_law_tame T.F_law_tame.kp T.b_law_tame (ad_cons (ed_call (ok_law_cord T) (hr.mono (by omega)) xk rfl T.g_law_cord T.F_law_cord.kp T.b_law_cord (ad_cons (ed_var 0) (ad_cons ed_int (ad_cons ed_int (ad_cons ed_int ad_nil))))) ad_nil)))
  (sds_cons (sd_set 2 nd (ed_op dMod (bd (ed_op dDiv (bd (ed_call (ok_law_at T) (hr.mono (by omega)) xk rfl T.g_law_at T.F_law_at.kp T.b_law_at (ad_cons (ed_var 0) (ad_cons ed_int ad_nil)))) (bd ed_int))) (bd ed_int)))
  (sds_cons (sd_if (td_cmp (dEq hr) (bd (ed_op dMod (bd (ed_call (ok_law_at T) (hr.mono (by omega)) xk rfl T.g_law_at T.F_law_at.kp T.b_law_at (ad_cons (ed_var 0) (ad_cons ed_int ad_nil)))) (bd ed_int))) (bd ed_int))
  (sds_cons (sd_set 2 nd (ed_op dAdd (bd ed_int) (bd (ed_op dMod (bd (ed_op dDiv (bd (ed_call (ok_law_at T) (hr.mono (by omega)) xk rfl T.g_law_at T.F_law_at.kp T.b_law_at (ad_cons (ed_var 0) (ad_cons ed_int ad_nil)))) (bd ed_int))) (bd ed_int)))))
  (sds_one (sd_set 1 nd (ed_sl (bd (ed_var 1)) od_none (od_some (bd (ed_ix (bd (ed_new (df_lst (ad_cons ed_int (ad_cons ed_int (ad_cons ed_int ad_nil)))))) (bd (ed_op dSub (bd (ed_var 2)) (bd ed_int))))))))))
  sds_nil)
  (sds_cons (sd_if (td_cmp (dEq hr) (bd (ed_op dMod (bd (ed_call (ok_law_at T) (hr.mono (by omega)) xk rfl T.g_law_at T.F_law_at.kp T.b_law_at (ad_cons (ed_var 0) (ad_cons ed_int ad_nil)))) (bd ed_int))) (bd ed_int))
  (sds_cons (sd_set 2 nd (ed_op dMod (bd (ed_op dDiv (bd (ed_call (ok_law_at T) (hr.mono (by omega)) xk rfl T.g_law_at T.F_law_at.kp T.b_law_at (ad_cons (ed_var 0) (ad_cons ed_int ad_nil)))) (bd ed_int))) (bd ed_int)))
  (sds_cons (sd_setLc 1 rfl nd (id_list (ed_var 1)) (blkOk_by (own := [("_law_nail", 6), ("_law_turns", 7)]) (N := N_law) (sc := defScope s_law) (by decide +kernel)) (fun _ _ _ _ _ => (gd_tup rfl (gds_cons (gd_name 6 nd) (gds_cons (gd_name 7 nd) gds_nil)))) (fun _ _ _ _ _ => (ed_tup (ad_cons (ed_ix (bd ed_str) (bd (ed_callT cInt rfl T.m_int (by decide +kernel) (ab_cons (bd (ed_cmp dGtS (bd (ed_var 6)) (bd ed_str))) ab_nil)))) (ad_cons (ed_var 7) ad_nil)))))
  (sds_frz 1 sds_nil)))
  sds_nil)
  (sds_cons (sd_set 3 nd (ed_call (ok_law_due T) (hr.mono (by omega)) xk rfl T.g_law_due T.F_law_due.kp T.b_law_due (ad_cons (ed_var 1) (ad_cons (ed_var 2) ad_nil))))
  (sds_cons (sd_set 4 nd (ed_new (df_callT cListF rfl T.m_list (by decide +kernel) (ab_cons (bd (ed_var 1)) ab_nil))))
  (sds_cons (sd_setF 5 nd (df_call (ok_rows_in T) (hr.mono (by omega)) xk rfl T.g_rows_in T.F_rows_in.kp T.b_rows_in (ad_cons (ed_var 4) (ad_cons (ed_var 2) ad_nil))))
  (sds_cons (sd_if (td_w (wd_or (td_not (td_val (bd (ed_callN (ok_law_right T) (hr.mono (by omega)) xk rfl T.g_law_right T.F_law_right.kp T.b_law_right (ab_cons (bd_own 5) (ab_cons (bd (ed_var 3)) ab_nil)))))) (wd_or1 (td_cmp (dNe hr) (bd (ed_var 4)) (bd (ed_var 1))))))
  (sds_one (sd_ret ed_bl))
  sds_nil)
  (sds_cons (sd_mut 5 mApp PySem.F.slot_list_append PySem.F.type_list_append (ad_cons (ed_tup (ad_cons ed_str (ad_cons ed_int ad_nil))) ad_nil))
  (sds_one (sd_ret (ed_call (ok_law_right T) (hr.mono (by omega)) xk rfl T.g_law_right T.F_law_right.kp T.b_law_right (ad_cons (ed_call (ok_rows_in T) (hr.mono (by omega)) xk rfl T.g_rows_in T.F_rows_in.kp T.b_rows_in (ad_cons (ed_var 4) (ad_cons (ed_var 2) ad_nil))) (ad_cons (ed_var 3) ad_nil))))))))))))))
end
theorem all_mk {l : PySem.W.OpenLaw} {w : World} {K : PySem.W.Frag} {h : Heap} {mg : Str → Option Value} {fl : Addr} (X : K.In h) (G : h.Ns mainGlobals mg) (hfl : mg "law" = some (.ref fl))
    {f0 f1 f2 f3 f4 f5 f6 f7 f8 f9 f10 f11 f12 f13 f14 : Addr}
    {od0 an0 od1 an1 od2 an2 od3 an3 od4 an4 od5 an5 od6 an6 od7 an7 od8 an8 od9 an9 od10 an10 od11 an11 od12 an12 od13 an13 od14 an14 : Option Addr} {sl0 sl1 sl2 sl3 sl4 sl5 sl6 sl7 sl8 sl9 sl10 sl11 sl12 sl13 sl14 : Array (Option Value)} {oc0 kV0 dc0 pm0 cd0 ct0 oc1 kV1 dc1 pm1 cd1 ct1 oc2 kV2 dc2 pm2 cd2 ct2 oc3 kV3 dc3 pm3 cd3 ct3 oc4 kV4 dc4 pm4 cd4 ct4 oc5 kV5 dc5 pm5 cd5 ct5 oc6 kV6 dc6 pm6 cd6 ct6 oc7 kV7 dc7 pm7 cd7 ct7 oc8 kV8 dc8 pm8 cd8 ct8 oc9 kV9 dc9 pm9 cd9 ct9 oc10 kV10 dc10 pm10 cd10 ct10 oc11 kV11 dc11 pm11 cd11 ct11 oc12 kV12 dc12 pm12 cd12 ct12 oc13 kV13 dc13 pm13 cd13 ct13 oc14 kV14 dc14 pm14 cd14 ct14 : Value}
    (a0 : PySem.W.nsIn K mainGlobals "_law_tame" = some (some (.ref f0))) (l0 : K.lookup f0 = some ⟨oc0, od0, .func (PySem.W.fnOf "_law_tame" "_law_tame" (defArgs s_law_tame) (defBody s_law_tame) (defScope s_law_tame) .none kV0 dc0 pm0 an0 cd0 ct0), sl0⟩) (c0' : PySem.W.codeIn K cd0 "_law_tame" = true) (k0 : PySem.W.keepIn K (.ref f0) = true)
    (a1 : PySem.W.nsIn K mainGlobals "_law_at" = some (some (.ref f1))) (l1 : K.lookup f1 = some ⟨oc1, od1, .func (PySem.W.fnOf "_law_at" "_law_at" (defArgs s_law_at) (defBody s_law_at) (defScope s_law_at) .none kV1 dc1 pm1 an1 cd1 ct1), sl1⟩) (c1' : PySem.W.codeIn K cd1 "_law_at" = true) (k1 : PySem.W.keepIn K (.ref f1) = true)
    (a2 : PySem.W.nsIn K mainGlobals "_law_contrary" = some (some (.ref f2))) (l2 : K.lookup f2 = some ⟨oc2, od2, .func (PySem.W.fnOf "_law_contrary" "_law_contrary" (defArgs s_law_contrary) (defBody s_law_contrary) (defScope s_law_contrary) .none kV2 dc2 pm2 an2 cd2 ct2), sl2⟩) (c2' : PySem.W.codeIn K cd2 "_law_contrary" = true) (k2 : PySem.W.keepIn K (.ref f2) = true)
    (a3 : PySem.W.nsIn K mainGlobals "_law_mix" = some (some (.ref f3))) (l3 : K.lookup f3 = some ⟨oc3, od3, .func (PySem.W.fnOf "_law_mix" "_law_mix" (defArgs s_law_mix) (defBody s_law_mix) (defScope s_law_mix) .none kV3 dc3 pm3 an3 cd3 ct3), sl3⟩) (c3' : PySem.W.codeIn K cd3 "_law_mix" = true) (k3 : PySem.W.keepIn K (.ref f3) = true)
    (a4 : PySem.W.nsIn K mainGlobals "_law_pieces" = some (some (.ref f4))) (l4 : K.lookup f4 = some ⟨oc4, od4, .func (PySem.W.fnOf "_law_pieces" "_law_pieces" (defArgs s_law_pieces) (defBody s_law_pieces) (defScope s_law_pieces) .none kV4 dc4 pm4 an4 cd4 ct4), sl4⟩) (c4' : PySem.W.codeIn K cd4 "_law_pieces" = true) (k4 : PySem.W.keepIn K (.ref f4) = true)
    (a5 : PySem.W.nsIn K mainGlobals "_law_cord" = some (some (.ref f5))) (l5 : K.lookup f5 = some ⟨oc5, od5, .func (PySem.W.fnOf "_law_cord" "_law_cord" (defArgs s_law_cord) (defBody s_law_cord) (defScope s_law_cord) .none kV5 dc5 pm5 an5 cd5 ct5), sl5⟩) (c5' : PySem.W.codeIn K cd5 "_law_cord" = true) (k5 : PySem.W.keepIn K (.ref f5) = true)
    (a6 : PySem.W.nsIn K mainGlobals "_law_more" = some (some (.ref f6))) (l6 : K.lookup f6 = some ⟨oc6, od6, .func (PySem.W.fnOf "_law_more" "_law_more" (defArgs s_law_more) (defBody s_law_more) (defScope s_law_more) .none kV6 dc6 pm6 an6 cd6 ct6), sl6⟩) (c6' : PySem.W.codeIn K cd6 "_law_more" = true) (k6 : PySem.W.keepIn K (.ref f6) = true)
    (a7 : PySem.W.nsIn K mainGlobals "_law_chosen" = some (some (.ref f7))) (l7 : K.lookup f7 = some ⟨oc7, od7, .func (PySem.W.fnOf "_law_chosen" "_law_chosen" (defArgs s_law_chosen) (defBody s_law_chosen) (defScope s_law_chosen) .none kV7 dc7 pm7 an7 cd7 ct7), sl7⟩) (c7' : PySem.W.codeIn K cd7 "_law_chosen" = true) (k7 : PySem.W.keepIn K (.ref f7) = true)
    (a8 : PySem.W.nsIn K mainGlobals "_law_times" = some (some (.ref f8))) (l8 : K.lookup f8 = some ⟨oc8, od8, .func (PySem.W.fnOf "_law_times" "_law_times" (defArgs s_law_times) (defBody s_law_times) (defScope s_law_times) .none kV8 dc8 pm8 an8 cd8 ct8), sl8⟩) (c8' : PySem.W.codeIn K cd8 "_law_times" = true) (k8 : PySem.W.keepIn K (.ref f8) = true)
    (a9 : PySem.W.nsIn K mainGlobals "_law_due" = some (some (.ref f9))) (l9 : K.lookup f9 = some ⟨oc9, od9, .func (PySem.W.fnOf "_law_due" "_law_due" (defArgs s_law_due) (defBody s_law_due) (defScope s_law_due) .none kV9 dc9 pm9 an9 cd9 ct9), sl9⟩) (c9' : PySem.W.codeIn K cd9 "_law_due" = true) (k9 : PySem.W.keepIn K (.ref f9) = true)
    (a10 : PySem.W.nsIn K mainGlobals "chosen" = some (some (.ref f10))) (l10 : K.lookup f10 = some ⟨oc10, od10, .func (PySem.W.fnOf "chosen" "chosen" (defArgs s_chosen) (defBody s_chosen) (defScope s_chosen) .none kV10 dc10 pm10 an10 cd10 ct10), sl10⟩) (c10' : PySem.W.codeIn K cd10 "chosen" = true) (k10 : PySem.W.keepIn K (.ref f10) = true)
    (a11 : PySem.W.nsIn K mainGlobals "longer" = some (some (.ref f11))) (l11 : K.lookup f11 = some ⟨oc11, od11, .func (PySem.W.fnOf "longer" "longer" (defArgs s_longer) (defBody s_longer) (defScope s_longer) .none kV11 dc11 pm11 an11 cd11 ct11), sl11⟩) (c11' : PySem.W.codeIn K cd11 "longer" = true) (k11 : PySem.W.keepIn K (.ref f11) = true)
    (a12 : PySem.W.nsIn K mainGlobals "rows_in" = some (some (.ref f12))) (l12 : K.lookup f12 = some ⟨oc12, od12, .func (PySem.W.fnOf "rows_in" "rows_in" (defArgs s_rows_in) (defBody s_rows_in) (defScope s_rows_in) .none kV12 dc12 pm12 an12 cd12 ct12), sl12⟩) (c12' : PySem.W.codeIn K cd12 "rows_in" = true) (k12 : PySem.W.keepIn K (.ref f12) = true)
    (a13 : PySem.W.nsIn K mainGlobals "_law_right" = some (some (.ref f13))) (l13 : K.lookup f13 = some ⟨oc13, od13, .func (PySem.W.fnOf "_law_right" "_law_right" (defArgs s_law_right) (defBody s_law_right) (defScope s_law_right) .none kV13 dc13 pm13 an13 cd13 ct13), sl13⟩) (c13' : PySem.W.codeIn K cd13 "_law_right" = true) (k13 : PySem.W.keepIn K (.ref f13) = true)
    (a14 : PySem.W.nsIn K mainGlobals "law" = some (some (.ref f14))) (l14 : K.lookup f14 = some ⟨oc14, od14, .func (PySem.W.fnOf "law" "law" (defArgs s_law) (defBody s_law) (defScope s_law) .none kV14 dc14 pm14 an14 cd14 ct14), sl14⟩) (c14' : PySem.W.codeIn K cd14 "law" = true) (k14 : PySem.W.keepIn K (.ref f14) = true)
    (z_abs : PySem.W.nsIn K mainGlobals "abs" = some none)
    (z_bool : PySem.W.nsIn K mainGlobals "bool" = some none)
    (z_dict : PySem.W.nsIn K mainGlobals "dict" = some none)
    (z_int : PySem.W.nsIn K mainGlobals "int" = some none)
    (z_isinstance : PySem.W.nsIn K mainGlobals "isinstance" = some none)
    (z_len : PySem.W.nsIn K mainGlobals "len" = some none)
    (z_list : PySem.W.nsIn K mainGlobals "list" = some none)
    (z_range : PySem.W.nsIn K mainGlobals "range" = some none)
    (z_reversed : PySem.W.nsIn K mainGlobals "reversed" = some none)
    (z_sorted : PySem.W.nsIn K mainGlobals "sorted" = some none)
    (z_str : PySem.W.nsIn K mainGlobals "str" = some none)
    (z_tuple : PySem.W.nsIn K mainGlobals "tuple" = some none)
    : ∃ fd : FuncData, (∀ (s : Shared) (v : Value), BindsTo s fd ⟨[v], []⟩ [("_law_script", v)]) ∧ ∀ base : Heap, K.In base → base.Ns mainGlobals mg → FnOk l.prog w K mg base (L2.CX l.prog w) 4 fl fd ["_law_script"] (@spOf ⟨K, [], fun _ => 0⟩ mg SP_law) := by
  have e := hfl.symm.trans (PySem.W.mg_of X G a14)
  cases e
  have F0 := fun_mk (st := s_law_tame) l0 c0' k0
  have b0 := F0.binds (ps := ["_law_cord_here"]) fun _ _ _ _ _ _ us hl => match us, hl with | [_], _ => rfl
  have F1 := fun_mk (st := s_law_at) l1 c1' k1
  have b1 := F1.binds (ps := ["_law_script", "_law_k"]) fun _ _ _ _ _ _ us hl => match us, hl with | [_, _], _ => rfl
  have F2 := fun_mk (st := s_law_contrary) l2 c2' k2
  have b2 := F2.binds (ps := ["_law_cord_here"]) fun _ _ _ _ _ _ us hl => match us, hl with | [_], _ => rfl
  have F3 := fun_mk (st := s_law_mix) l3 c3' k3
  have b3 := F3.binds (ps := ["_law_cell", "_law_k"]) fun _ _ _ _ _ _ us hl => match us, hl with | [_, _], _ => rfl
  have F4 := fun_mk (st := s_law_pieces) l4 c4' k4
  have b4 := F4.binds (ps := ["_law_cell"]) fun _ _ _ _ _ _ us hl => match us, hl with | [_], _ => rfl
  have F5 := fun_mk (st := s_law_cord) l5 c5' k5
  have b5 := F5.binds (ps := ["_law_script", "_law_first", "_law_last", "_law_most"]) fun _ _ _ _ _ _ us hl => match us, hl with | [_, _, _, _], _ => rfl
  have F6 := fun_mk (st := s_law_more) l6 c6' k6
  have b6 := F6.binds (ps := ["_law_rows", "_law_nails"]) fun _ _ _ _ _ _ us hl => match us, hl with | [_, _], _ => rfl
  have F7 := fun_mk (st := s_law_chosen) l7 c7' k7
  have b7 := F7.binds (ps := ["_law_turns", "_law_many"]) fun _ _ _ _ _ _ us hl => match us, hl with | [_, _], _ => rfl
  have F8 := fun_mk (st := s_law_times) l8 c8' k8
  have b8 := F8.binds (ps := ["_law_row", "_law_cord_here"]) fun _ _ _ _ _ _ us hl => match us, hl with | [_, _], _ => rfl
  have F9 := fun_mk (st := s_law_due) l9 c9' k9
  have b9 := F9.binds (ps := ["_law_cord_here", "_law_length"]) fun _ _ _ _ _ _ us hl => match us, hl with | [_, _], _ => rfl
  have F10 := fun_mk (st := s_chosen) l10 c10' k10
  have b10 := F10.binds (ps := ["turns", "many"]) fun _ _ _ _ _ _ us hl => match us, hl with | [_, _], _ => rfl
  have F11 := fun_mk (st := s_longer) l11 c11' k11
  have b11 := F11.binds (ps := ["counts", "nail", "turns", "length"]) fun _ _ _ _ _ _ us hl => match us, hl with | [_, _, _, _], _ => rfl
  have F12 := fun_mk (st := s_rows_in) l12 c12' k12
  have b12 := F12.binds (ps := ["cord", "length"]) fun _ _ _ _ _ _ us hl => match us, hl with | [_, _], _ => rfl
  have F13 := fun_mk (st := s_law_right) l13 c13' k13
  have b13 := F13.binds (ps := ["_law_found", "_law_due_here"]) fun _ _ _ _ _ _ us hl => match us, hl with | [_, _], _ => rfl
  have F14 := fun_mk (st := s_law) l14 c14' k14
  have b14 := F14.binds (ps := ["_law_script"]) fun _ _ _ _ _ _ us hl => match us, hl with | [_], _ => rfl
  let fa : Nat → Addr := fun i => [f0, f1, f2, f3, f4, f5, f6, f7, f8, f9, f10, f11, f12, f13, fl].getD i 0
  let fd : Nat → FuncData := fun i => [PySem.W.fnOf "_law_tame" "_law_tame" (defArgs s_law_tame) (defBody s_law_tame) (defScope s_law_tame) .none kV0 dc0 pm0 an0 cd0 ct0, PySem.W.fnOf "_law_at" "_law_at" (defArgs s_law_at) (defBody s_law_at) (defScope s_law_at) .none kV1 dc1 pm1 an1 cd1 ct1, PySem.W.fnOf "_law_contrary" "_law_contrary" (defArgs s_law_contrary) (defBody s_law_contrary) (defScope s_law_contrary) .none kV2 dc2 pm2 an2 cd2 ct2, PySem.W.fnOf "_law_mix" "_law_mix" (defArgs s_law_mix) (defBody s_law_mix) (defScope s_law_mix) .none kV3 dc3 pm3 an3 cd3 ct3, PySem.W.fnOf "_law_pieces" "_law_pieces" (defArgs s_law_pieces) (defBody s_law_pieces) (defScope s_law_pieces) .none kV4 dc4 pm4 an4 cd4 ct4, PySem.W.fnOf "_law_cord" "_law_cord" (defArgs s_law_cord) (defBody s_law_cord) (defScope s_law_cord) .none kV5 dc5 pm5 an5 cd5 ct5, PySem.W.fnOf "_law_more" "_law_more" (defArgs s_law_more) (defBody s_law_more) (defScope s_law_more) .none kV6 dc6 pm6 an6 cd6 ct6, PySem.W.fnOf "_law_chosen" "_law_chosen" (defArgs s_law_chosen) (defBody s_law_chosen) (defScope s_law_chosen) .none kV7 dc7 pm7 an7 cd7 ct7, PySem.W.fnOf "_law_times" "_law_times" (defArgs s_law_times) (defBody s_law_times) (defScope s_law_times) .none kV8 dc8 pm8 an8 cd8 ct8, PySem.W.fnOf "_law_due" "_law_due" (defArgs s_law_due) (defBody s_law_due) (defScope s_law_due) .none kV9 dc9 pm9 an9 cd9 ct9, PySem.W.fnOf "chosen" "chosen" (defArgs s_chosen) (defBody s_chosen) (defScope s_chosen) .none kV10 dc10 pm10 an10 cd10 ct10, PySem.W.fnOf "longer" "longer" (defArgs s_longer) (defBody s_longer) (defScope s_longer) .none kV11 dc11 pm11 an11 cd11 ct11, PySem.W.fnOf "rows_in" "rows_in" (defArgs s_rows_in) (defBody s_rows_in) (defScope s_rows_in) .none kV12 dc12 pm12 an12 cd12 ct12, PySem.W.fnOf "_law_right" "_law_right" (defArgs s_law_right) (defBody s_law_right) (defScope s_law_right) .none kV13 dc13 pm13 an13 cd13 ct13, PySem.W.fnOf "law" "law" (defArgs s_law) (defBody s_law) (defScope s_law) .none kV14 dc14 pm14 an14 cd14 ct14].getD i (PySem.W.fnOf "law" "law" (defArgs s_law) (defBody s_law) (defScope s_law) .none kV14 dc14 pm14 an14 cd14 ct14)
  let ca : Nat → Addr := fun i => [].getD i 0
  have T : Txt K mg fa fd ca := ⟨PySem.W.mg_none_of X G z_abs, PySem.W.mg_none_of X G z_bool, PySem.W.mg_none_of X G z_dict, PySem.W.mg_none_of X G z_int, PySem.W.mg_none_of X G z_isinstance, PySem.W.mg_none_of X G z_len, PySem.W.mg_none_of X G z_list, PySem.W.mg_none_of X G z_range, PySem.W.mg_none_of X G z_reversed, PySem.W.mg_none_of X G z_sorted, PySem.W.mg_none_of X G z_str, PySem.W.mg_none_of X G z_tuple, PySem.W.mg_of X G a0, F0, b0, PySem.W.mg_of X G a1, F1, b1, PySem.W.mg_of X G a2, F2, b2, PySem.W.mg_of X G a3, F3, b3, PySem.W.mg_of X G a4, F4, b4, PySem.W.mg_of X G a5, F5, b5, PySem.W.mg_of X G a6, F6, b6, PySem.W.mg_of X G a7, F7, b7, PySem.W.mg_of X G a8, F8, b8, PySem.W.mg_of X G a9, F9, b9, PySem.W.mg_of X G a10, F10, b10, PySem.W.mg_of X G a11, F11, b11, PySem.W.mg_of X G a12, F12, b12, PySem.W.mg_of X G a13, F13, b13, PySem.W.mg_of X G a14, F14, b14⟩
  exact ⟨PySem.W.fnOf "law" "law" (defArgs s_law) (defBody s_law) (defScope s_law) .none kV14 dc14 pm14 an14 cd14 ct14, fun s v => .of_eq rfl, fun base _ _ => ok_law T⟩
end NL
open PySem PySem.W PyProof.Rows
set_option maxHeartbeats 0 in
theorem PySem.Challenge.cw_nailhang_k16_all_rows_of_a_length_holds : PySem.Challenge.rw_nailhang_k16_all_rows_of_a_length.Holds := by
  w_on; o_law; k_head; (case hw => w_witness2)
  k_fill
  refine L2.walk_of (l := PySem.Challenge.rw_nailhang_k16_all_rows_of_a_length) (n := 63) (k := 4) (x := "_law_script") (CX := fun w => L2.CX PySem.Challenge.rw_nailhang_k16_all_rows_of_a_length.prog w) (sp := fun w => NL.spLaw _) rfl (by decide) rfl ⟨rfl, by decide, by decide⟩ (fun w h Y => PySem.W.kIn_of Y) ?F (fun _ _ a ns hl hO hS => NL.law_in hl hS) (fun _ _ _ _ _ h => NL.law_cx h)
  case F =>
    intro w mg fa h KX G hmg
    refine' NL.law_F (NL.all_mk KX G hmg ?a0 ?l0 ?c0p ?k0 ?a1 ?l1 ?c1p ?k1 ?a2 ?l2 ?c2p ?k2 ?a3 ?l3 ?c3p ?k3 ?a4 ?l4 ?c4p ?k4 ?a5 ?l5 ?c5p ?k5 ?a6 ?l6 ?c6p ?k6 ?a7 ?l7 ?c7p ?k7 ?a8 ?l8 ?c8p ?k8 ?a9 ?l9 ?c9p ?k9 ?a10 ?l10 ?c10p ?k10 ?a11 ?l11 ?c11p ?k11 ?a12 ?l12 ?c12p ?k12 ?a13 ?l13 ?c13p ?k13 ?a14 ?l14 ?c14p ?k14 ?z_abs ?z_bool ?z_dict ?z_int ?z_isinstance ?z_len ?z_list ?z_range ?z_reversed ?z_sorted ?z_str ?z_tuple)
    (case a0 => k_is)
    (case l0 => k_is)
    (case c0p => k_is)
    (case k0 => k_is)
    (case a1 => k_is)
    (case l1 => k_is)
    (case c1p => k_is)
    (case k1 => k_is)
    (case a2 => k_is)
    (case l2 => k_is)
    (case c2p => k_is)
    (case k2 => k_is)
    (case a3 => k_is)
    (case l3 => k_is)
    (case c3p => k_is)
    (case k3 => k_is)
    (case a4 => k_is)
    (case l4 => k_is)
    (case c4p => k_is)
    (case k4 => k_is)
    (case a5 => k_is)
    (case l5 => k_is)
    (case c5p => k_is)
    (case k5 => k_is)
    (case a6 => k_is)
    (case l6 => k_is)
    (case c6p => k_is)
    (case k6 => k_is)
    (case a7 => k_is)
    (case l7 => k_is)
    (case c7p => k_is)
    (case k7 => k_is)
    (case a8 => k_is)
    (case l8 => k_is)
    (case c8p => k_is)
    (case k8 => k_is)
    (case a9 => k_is)
    (case l9 => k_is)
    (case c9p => k_is)
    (case k9 => k_is)
    (case a10 => k_is)
    (case l10 => k_is)
    (case c10p => k_is)
    (case k10 => k_is)
    (case a11 => k_is)
    (case l11 => k_is)
    (case c11p => k_is)
    (case k11 => k_is)
    (case a12 => k_is)
    (case l12 => k_is)
    (case c12p => k_is)
    (case k12 => k_is)
    (case a13 => k_is)
    (case l13 => k_is)
    (case c13p => k_is)
    (case k13 => k_is)
    (case a14 => k_is)
    (case l14 => k_is)
    (case c14p => k_is)
    (case k14 => k_is)
    (case z_abs => k_is)
    (case z_bool => k_is)
    (case z_dict => k_is)
    (case z_int => k_is)
    (case z_isinstance => k_is)
    (case z_len => k_is)
    (case z_list => k_is)
    (case z_range => k_is)
    (case z_reversed => k_is)
    (case z_sorted => k_is)
    (case z_str => k_is)
    (case z_tuple => k_is)
#print axioms PySem.Challenge.cw_nailhang_k16_all_rows_of_a_length_holds
