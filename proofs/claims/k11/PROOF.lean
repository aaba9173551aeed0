import PyProof.Rows.All
import Wide.All
import OpenK.AllK
import Wide.FinOn
import HandS.ForMost
import HandS.Walk
import HandS.TupAny
import HandS.Wide
import HandS.More
import HandS.SortInts
import HandS.Conv
import HandS.IsInst
import HandS.Rev
import PySem.Challenge.RW_struckalone_k11_paths_read_in_words
set_option Elab.async false
set_option linter.all false
set_option maxRecDepth 100000
/-! The data layer: what a def computes, over plain data; the heap is split into what is frozen, what the frame owns, and the rest. -/
namespace Dl
open PySem L2

/-! ### parts of a heap -/
def emp : Hp := fun _ => none
def Dj (A B : Hp) : Prop := ∀ a, A a = none ∨ B a = none
def Sub (A B : Hp) : Prop := ∀ a o, A a = some o → B a = some o
def jn (A B : Hp) : Hp := fun a => match A a with | some o => some o | none => B a
theorem Sub.refl {A : Hp} : Sub A A := fun _ _ h => h
theorem Sub.trans {A B C : Hp} (h : Sub A B) (g : Sub B C) : Sub A C := fun a o e => g a o (h a o e)
theorem Sub.none {A B : Hp} (h : Sub A B) {a : Addr} (e : B a = none) : A a = none := by
  cases q : A a with
  | none => rfl
  | some o => rw [h a o q] at e; cases e
theorem Dj.symm {A B : Hp} (h : Dj A B) : Dj B A := fun a => (h a).symm
theorem Dj.sub {A B A' B' : Hp} (h : Dj A B) (s : Sub A' A) (t : Sub B' B) : Dj A' B' := fun a => (h a).imp (fun e => s.none e) (fun e => t.none e)
theorem Dj.left {A B A' : Hp} (h : Dj A B) (s : Sub A' A) : Dj A' B := h.sub s Sub.refl
theorem Dj.right {A B B' : Hp} (h : Dj A B) (t : Sub B' B) : Dj A B' := h.sub Sub.refl t
theorem emp_sub {A : Hp} : Sub emp A := fun _ _ h => nomatch h
theorem emp_dj {A : Hp} : Dj emp A := fun _ => .inl rfl
theorem dj_emp {A : Hp} : Dj A emp := fun _ => .inr rfl
theorem jn_l {A B : Hp} : Sub A (jn A B) := fun a o e => by unfold jn; rw [e]
theorem jn_r {A B : Hp} (h : Dj A B) : Sub B (jn A B) := fun a o e => by
  unfold jn
  rcases h a with q | q
  · rw [q]; exact e
  · rw [q] at e; cases e
theorem jn_sub {A B C : Hp} (h : Sub A C) (g : Sub B C) : Sub (jn A B) C := fun a o e => by
  unfold jn at e
  cases q : A a with
  | none => rw [q] at e; exact g a o e
  | some u => rw [q] at e; cases e; exact h a _ q
theorem jn_none {A B : Hp} {a : Addr} (h : A a = none) (g : B a = none) : jn A B a = none := by unfold jn; rw [h]; exact g
theorem dj_jn {A B C : Hp} (h : Dj A C) (g : Dj B C) : Dj (jn A B) C := fun a => by
  rcases h a with p | p
  · rcases g a with q | q
    · exact .inl (jn_none p q)
    · exact .inr q
  · exact .inr p
theorem jn_dj {A B C : Hp} (h : Dj C A) (g : Dj C B) : Dj C (jn A B) := (dj_jn h.symm g.symm).symm
/-- one cell -/
def one (a : Addr) (o : HO) : Hp := fun b => if b = a then some o else none
theorem one_same {a : Addr} {o : HO} : one a o a = some o := by unfold one; rw [if_pos rfl]
theorem one_ne {a b : Addr} {o : HO} (h : b ≠ a) : one a o b = none := by unfold one; rw [if_neg h]
theorem dj_one {A : Hp} {a : Addr} {o : HO} (h : A a = none) : Dj A (one a o) := fun b => by
  by_cases e : b = a
  · subst e; exact .inl h
  · exact .inr (one_ne e)
theorem one_sub {A : Hp} {a : Addr} {o : HO} (h : A a = some o) : Sub (one a o) A := fun b u e => by
  by_cases q : b = a
  · subst q; rw [one_same] at e; cases e; exact h
  · rw [one_ne q] at e; cases e
theorem sub_upd {A B : Hp} {a : Addr} {o : HO} (s : Sub A B) (h : A a = none) : Sub A (upd B a o) := fun b u e => by
  have : b ≠ a := fun q => by subst q; rw [h] at e; cases e
  rw [upd_ne this]; exact s b u e
theorem upd_sub {A B : Hp} {a : Addr} {o : HO} (s : Sub A B) : Sub (upd A a o) (upd B a o) := fun b u e => by
  by_cases q : b = a
  · subst q; rw [upd_same] at e ⊢; exact e
  · rw [upd_ne q] at e ⊢; exact s b u e
theorem dj_upd {A B : Hp} {a : Addr} {o : HO} (h : Dj A B) (g : B a = none) : Dj (upd A a o) B := fun b => by
  by_cases q : b = a
  · subst q; exact .inr g
  · rw [upd_ne q]; exact h b
theorem sub_self_upd {A : Hp} {a : Addr} {o : HO} (h : A a = none) : Sub A (upd A a o) := sub_upd Sub.refl h

/-- H holds three parts that stand apart: G is frozen, O is owned, F is all others' -/
structure Spl (H G O F : Hp) : Prop where
  g : Sub G H
  o : Sub O H
  f : Sub F H
  go : Dj G O
  gf : Dj G F
  of : Dj O F
section
variable {H G O F O' F' O1 O2 : Hp} {a : Addr} {u : HO}
theorem Spl.sub (s : Spl H G O F) (h : Sub O' O) : Spl H G O' F := ⟨s.g, h.trans s.o, s.f, s.go.right h, s.gf, s.of.left h⟩
/-- freeze an owned part -/
theorem Spl.freeze (s : Spl H G (jn O1 O2) F) (d : Dj O1 O2) : Spl H (jn G O1) O2 F :=
  ⟨jn_sub s.g (jn_l.trans s.o), (jn_r d).trans s.o, s.f, dj_jn (s.go.right (jn_r d)) d, dj_jn s.gf (s.of.left jn_l), s.of.left (jn_r d)⟩
/-- hand an owned part to the frame -/
theorem Spl.frame (s : Spl H G (jn O1 O2) F) (d : Dj O1 O2) : Spl H G O2 (jn O1 F) :=
  ⟨s.g, (jn_r d).trans s.o, jn_sub (jn_l.trans s.o) s.f, s.go.right (jn_r d), jn_dj (s.go.right jn_l) s.gf, jn_dj d.symm (s.of.left (jn_r d))⟩
theorem Spl.unframe {d1 : Dj O1 O2} (s : Spl H G O2 (jn O1 F)) (d : Dj O1 F) : Spl H G (jn O1 O2) F :=
  ⟨s.g, jn_sub (jn_l.trans s.f) s.o, (jn_r d).trans s.f, jn_dj (s.gf.right jn_l) s.go, s.gf.right (jn_r d), dj_jn d (s.of.right (jn_r d))⟩
theorem Spl.nf (s : Spl H G O F) (e : H a = none) : G a = none ∧ O a = none ∧ F a = none := ⟨s.g.none e, s.o.none e, s.f.none e⟩
/-- a new cell, frozen -/
theorem Spl.newG (s : Spl H G O F) (e : H a = none) : Spl (upd H a u) (upd G a u) O F :=
  ⟨upd_sub s.g, sub_upd s.o (s.nf e).2.1, sub_upd s.f (s.nf e).2.2, dj_upd s.go (s.nf e).2.1, dj_upd s.gf (s.nf e).2.2, s.of⟩
/-- a new cell, owned -/
theorem Spl.newO (s : Spl H G O F) (e : H a = none) : Spl (upd H a u) G (upd O a u) F :=
  ⟨sub_upd s.g (s.nf e).1, upd_sub s.o, sub_upd s.f (s.nf e).2.2, (dj_upd s.go.symm (s.nf e).1).symm, s.gf, dj_upd s.of (s.nf e).2.2⟩
/-- an owned cell is written -/
theorem Spl.write {v : HO} (s : Spl H G O F) (e : O a = some v) : Spl (upd H a u) G (upd O a u) F := by
  have g : G a = none := by rcases s.go a with q | q; exact q; rw [e] at q; cases q
  have f : F a = none := by rcases s.of a with q | q; (rw [e] at q; cases q); exact q
  exact ⟨sub_upd s.g g, upd_sub s.o, sub_upd s.f f, (dj_upd s.go.symm g).symm, s.gf, dj_upd s.of f⟩
end

/-! ### data -/
inductive D where
  | non | bl (b : Bool) | int (i : Int) | str (x : Str) | ty (n : String) | ref (a : Addr)
  | lst (ds : List D) | tup (ds : List D) | sq (ds : List D)
  | dk (ks : List Key) (ds : List D) | dt (ks : List (List Key)) (ds : List D)
  | set (S : Int → Bool) (n : Nat)
  | obj (C : Addr) (ns : List Str) (ds : List D)

mutual
/-- the value v stands, in what is frozen, for the data -/
def Rep (K : PySem.W.Frag) (G : Hp) : D → V → Prop
  | .non, v => v = .non
  | .bl b, v => v = .bl b
  | .int i, v => v = .int i
  | .str x, v => v = .str x
  | .ty n, v => v = .ty n
  | .ref a, v => v = .ref a
  | .lst ds, v => ∃ a xs, v = .ref a ∧ G a = some (.lst xs) ∧ Reps K G ds xs
  | .tup ds, v => ∃ a xs, v = .ref a ∧ SqT K G a xs ∧ Reps K G ds xs
  | .sq ds, v => ∃ a xs, v = .ref a ∧ SqL K G a xs ∧ Reps K G ds xs
  | .dk ks ds, v => ∃ a xs, v = .ref a ∧ G a = some (.dK (ks.zip xs)) ∧ ks.length = xs.length ∧ Reps K G ds xs
  | .dt ks ds, v => ∃ a xs, v = .ref a ∧ G a = some (.dT (ks.zip xs)) ∧ ks.length = xs.length ∧ Reps K G ds xs
  | .set S n, v => ∃ a, v = .ref a ∧ G a = some (.set S n)
  | .obj C ns ds, v => ∃ a dx xs, v = .ref a ∧ G a = some (.ins C dx (ns.zip xs)) ∧ ns.length = xs.length ∧ Reps K G ds xs
def Reps (K : PySem.W.Frag) (G : Hp) : List D → List V → Prop
  | [], xs => xs = []
  | d :: ds, xs => ∃ x r, xs = x :: r ∧ Rep K G d x ∧ Reps K G ds r
end

theorem SqL.sub {K : PySem.W.Frag} {G G' : Hp} (s : Sub G G') {a : Addr} {xs : List V} (h : SqL K G a xs) : SqL K G' a xs := by
  rcases h with (h | ⟨o, h⟩) | h
  · exact .inl (.inl (s _ _ h))
  · exact .inl (.inr ⟨o, s _ _ h⟩)
  · exact .inr h
theorem SqT.sub {K : PySem.W.Frag} {G G' : Hp} (s : Sub G G') {a : Addr} {xs : List V} (h : SqT K G a xs) : SqT K G' a xs := by
  rcases h with (h | ⟨o, h⟩) | h
  · exact .inl (.inl (s _ _ h))
  · exact .inl (.inr ⟨o, s _ _ h⟩)
  · exact .inr h
mutual
theorem Rep.mono {K : PySem.W.Frag} {G G' : Hp} (s : Sub G G') : ∀ {d : D} {v : V}, Rep K G d v → Rep K G' d v
  | .non, _, h => h
  | .bl _, _, h => h
  | .int _, _, h => h
  | .str _, _, h => h
  | .ty _, _, h => h
  | .ref _, _, h => h
  | .lst _, _, h => by obtain ⟨a, xs, e, g, r⟩ := h; exact ⟨a, xs, e, s _ _ g, Reps.mono s r⟩
  | .tup _, _, h => by obtain ⟨a, xs, e, g, r⟩ := h; exact ⟨a, xs, e, SqT.sub s g, Reps.mono s r⟩
  | .sq _, _, h => by obtain ⟨a, xs, e, g, r⟩ := h; exact ⟨a, xs, e, SqL.sub s g, Reps.mono s r⟩
  | .dk _ _, _, h => by obtain ⟨a, xs, e, g, l, r⟩ := h; exact ⟨a, xs, e, s _ _ g, l, Reps.mono s r⟩
  | .dt _ _, _, h => by obtain ⟨a, xs, e, g, l, r⟩ := h; exact ⟨a, xs, e, s _ _ g, l, Reps.mono s r⟩
  | .set _ _, _, h => by obtain ⟨a, e, g⟩ := h; exact ⟨a, e, s _ _ g⟩
  | .obj _ _ _, _, h => by obtain ⟨a, dx, xs, e, g, l, r⟩ := h; exact ⟨a, dx, xs, e, s _ _ g, l, Reps.mono s r⟩
theorem Reps.mono {K : PySem.W.Frag} {G G' : Hp} (s : Sub G G') : ∀ {ds : List D} {xs : List V}, Reps K G ds xs → Reps K G' ds xs
  | [], _, h => h
  | _ :: _, _, h => by obtain ⟨x, r, e, h1, h2⟩ := h; exact ⟨x, r, e, Rep.mono s h1, Reps.mono s h2⟩
end
section
variable {K : PySem.W.Frag} {G : Hp}
theorem Reps.length : ∀ {ds : List D} {xs : List V}, Reps K G ds xs → ds.length = xs.length
  | [], _, h => by cases h; rfl
  | _ :: _, _, h => by obtain ⟨x, r, e, _, h2⟩ := h; subst e; simp [Reps.length h2]
theorem Reps.get : ∀ {ds : List D} {xs : List V} {i : Nat} {d : D}, Reps K G ds xs → ds[i]? = some d → ∃ x, xs[i]? = some x ∧ Rep K G d x
  | [], _, _, _, _, e => by simp at e
  | d :: ds, _, 0, _, h, e => by obtain ⟨x, r, e2, h1, h2⟩ := h; subst e2; simp at e; subst e; exact ⟨x, rfl, h1⟩
  | d :: ds, _, i + 1, _, h, e => by
    obtain ⟨x, r, e2, h1, h2⟩ := h; subst e2
    obtain ⟨y, q1, q2⟩ := Reps.get (i := i) h2 (by simpa using e)
    exact ⟨y, by simpa using q1, q2⟩
theorem Reps.getV {ds : List D} {xs : List V} {i : Nat} {x : V} (h : Reps K G ds xs) (e : xs[i]? = some x) : ∃ d, ds[i]? = some d ∧ Rep K G d x := by
  have hl : i < ds.length := by rw [h.length]; exact (List.getElem?_eq_some_iff.mp e).1
  obtain ⟨y, q1, q2⟩ := h.get (List.getElem?_eq_getElem hl)
  rw [e] at q1; cases q1
  exact ⟨_, List.getElem?_eq_getElem hl, q2⟩
theorem Reps.append : ∀ {ds es : List D} {xs ys : List V}, Reps K G ds xs → Reps K G es ys → Reps K G (ds ++ es) (xs ++ ys)
  | [], _, _, _, h, g => by cases h; exact g
  | _ :: _, _, _, _, h, g => by obtain ⟨x, r, e, h1, h2⟩ := h; subst e; exact ⟨x, _, rfl, h1, Reps.append h2 g⟩
theorem Reps.take : ∀ {ds : List D} {xs : List V} (n : Nat), Reps K G ds xs → Reps K G (ds.take n) (xs.take n)
  | _, _, 0, _ => rfl
  | [], _, _ + 1, h => by cases h; rfl
  | _ :: _, _, n + 1, h => by obtain ⟨x, r, e, h1, h2⟩ := h; subst e; exact ⟨x, _, rfl, h1, Reps.take n h2⟩
theorem Reps.drop : ∀ {ds : List D} {xs : List V} (n : Nat), Reps K G ds xs → Reps K G (ds.drop n) (xs.drop n)
  | _, _, 0, h => h
  | [], _, _ + 1, h => by cases h; rfl
  | _ :: _, _, n + 1, h => by obtain ⟨x, r, e, h1, h2⟩ := h; subst e; exact Reps.drop n h2
theorem Reps.set : ∀ {ds : List D} {xs : List V} {d : D} {x : V} (i : Nat), Reps K G ds xs → Rep K G d x → Reps K G (ds.set i d) (xs.set i x)
  | [], _, _, _, _, h, _ => by cases h; rfl
  | _ :: _, _, _, _, 0, h, g => by obtain ⟨x, r, e, h1, h2⟩ := h; subst e; exact ⟨_, _, rfl, g, h2⟩
  | _ :: _, _, _, _, i + 1, h, g => by obtain ⟨x, r, e, h1, h2⟩ := h; subst e; exact ⟨_, _, rfl, h1, Reps.set i h2 g⟩
theorem Reps.one {d : D} {x : V} (h : Rep K G d x) : Reps K G [d] [x] := ⟨x, [], rfl, h, rfl⟩
theorem Reps.cons {d : D} {x : V} {ds : List D} {xs : List V} (h : Rep K G d x) (g : Reps K G ds xs) : Reps K G (d :: ds) (x :: xs) := ⟨x, xs, rfl, h, g⟩
theorem Reps.reverse : ∀ {ds : List D} {xs : List V}, Reps K G ds xs → Reps K G ds.reverse xs.reverse
  | [], _, h => by cases h; rfl
  | _ :: _, _, h => by
    obtain ⟨x, r, e, h1, h2⟩ := h; subst e
    rw [List.reverse_cons, List.reverse_cons]
    exact (Reps.reverse h2).append (.one h1)
theorem Reps.eraseIdx : ∀ {ds : List D} {xs : List V} (i : Nat), Reps K G ds xs → Reps K G (ds.eraseIdx i) (xs.eraseIdx i)
  | [], _, _, h => by cases h; rfl
  | _ :: _, _, 0, h => by obtain ⟨x, r, e, h1, h2⟩ := h; subst e; exact h2
  | _ :: _, _, i + 1, h => by obtain ⟨x, r, e, h1, h2⟩ := h; subst e; exact ⟨_, _, rfl, h1, Reps.eraseIdx i h2⟩
theorem reps_ints : ∀ {ns : List Int} {xs : List V}, Reps K G (ns.map D.int) xs → xs = ns.map V.int
  | [], _, h => h
  | _ :: _, _, h => by
    obtain ⟨x, r, e, h1, h2⟩ := h
    have h1' : x = V.int _ := h1
    rw [e, h1', reps_ints h2]; rfl
theorem ints_reps : ∀ {ns : List Int}, Reps K G (ns.map D.int) (ns.map V.int)
  | [] => rfl
  | _ :: _ => ⟨_, _, rfl, rfl, ints_reps⟩
theorem reps_bls : ∀ {ns : List Bool} {xs : List V}, Reps K G (ns.map D.bl) xs → xs = ns.map V.bl
  | [], _, h => h
  | _ :: _, _, h => by
    obtain ⟨x, r, e, h1, h2⟩ := h
    have h1' : x = V.bl _ := h1
    rw [e, h1', reps_bls h2]; rfl
theorem reps_strs : ∀ {ns : List Str} {xs : List V}, Reps K G (ns.map D.str) xs → xs = ns.map V.str
  | [], _, h => h
  | _ :: _, _, h => by
    obtain ⟨x, r, e, h1, h2⟩ := h
    have h1' : x = V.str _ := h1
    rw [e, h1', reps_strs h2]; rfl
theorem reps_all : ∀ {ds : List D} {xs : List V}, ds.length = xs.length → (∀ (i : Nat) (d : D) (x : V), ds[i]? = some d → xs[i]? = some x → Rep K G d x) → Reps K G ds xs
  | [], [], _, _ => rfl
  | [], _ :: _, h, _ => by simp at h
  | _ :: _, [], h, _ => by simp at h
  | d :: ds, x :: xs, h, f => ⟨x, xs, rfl, f 0 d x rfl rfl, reps_all (by simpa using h) fun i d' x' h1 h2 => f (i + 1) d' x' (by simpa using h1) (by simpa using h2)⟩
end

/-! ### trees: data whose upper cells are owned -/
inductive T where
  | fz (d : D) | ls (ts : List T) | dk (ks : List Key) (ts : List T) | dt (ks : List (List Key)) (ts : List T) | st (S : Int → Bool) (n : Nat) | ob (C : Addr) (ns : List Str) (ts : List T)
mutual
def T.d : T → D
  | .fz d => d
  | .ls ts => .lst (Ts.d ts)
  | .dk ks ts => .dk ks (Ts.d ts)
  | .dt ks ts => .dt ks (Ts.d ts)
  | .st S n => .set S n
  | .ob C ns ts => .obj C ns (Ts.d ts)
def Ts.d : List T → List D
  | [] => []
  | t :: ts => t.d :: Ts.d ts
end
mutual
def RepT (K : PySem.W.Frag) (G : Hp) : T → V → Hp → Prop
  | .fz d, v, _ => Rep K G d v
  | .ls ts, v, O => ∃ a xs O', v = .ref a ∧ O a = some (.lst xs) ∧ O' a = none ∧ Sub O' O ∧ RepTs K G ts xs O'
  | .dk ks ts, v, O => ∃ a xs O', v = .ref a ∧ O a = some (.dK (ks.zip xs)) ∧ ks.length = xs.length ∧ O' a = none ∧ Sub O' O ∧ RepTs K G ts xs O'
  | .dt ks ts, v, O => ∃ a xs O', v = .ref a ∧ O a = some (.dT (ks.zip xs)) ∧ ks.length = xs.length ∧ O' a = none ∧ Sub O' O ∧ RepTs K G ts xs O'
  | .st S n, v, O => ∃ a, v = .ref a ∧ O a = some (.set S n)
  | .ob C ns ts, v, O => ∃ a dx xs O', v = .ref a ∧ O a = some (.ins C dx (ns.zip xs)) ∧ ns.length = xs.length ∧ O' a = none ∧ Sub O' O ∧ RepTs K G ts xs O'
def RepTs (K : PySem.W.Frag) (G : Hp) : List T → List V → Hp → Prop
  | [], xs, _ => xs = []
  | t :: ts, xs, O => ∃ x r O1 O2, xs = x :: r ∧ Sub O1 O ∧ Sub O2 O ∧ Dj O1 O2 ∧ RepT K G t x O1 ∧ RepTs K G ts r O2
end
mutual
theorem RepT.mono {K : PySem.W.Frag} {G G' O O2 : Hp} (s : Sub G G') (so : Sub O O2) : ∀ {t : T} {v : V}, RepT K G t v O → RepT K G' t v O2
  | .fz _, _, h => Rep.mono s h
  | .ls _, _, h => by obtain ⟨a, xs, O', e, g, n, z, r⟩ := h; exact ⟨a, xs, O', e, so _ _ g, n, z.trans so, RepTs.mono s Sub.refl r⟩
  | .dk _ _, _, h => by obtain ⟨a, xs, O', e, g, l, n, z, r⟩ := h; exact ⟨a, xs, O', e, so _ _ g, l, n, z.trans so, RepTs.mono s Sub.refl r⟩
  | .dt _ _, _, h => by obtain ⟨a, xs, O', e, g, l, n, z, r⟩ := h; exact ⟨a, xs, O', e, so _ _ g, l, n, z.trans so, RepTs.mono s Sub.refl r⟩
  | .st _ _, _, h => by obtain ⟨a, e, g⟩ := h; exact ⟨a, e, so _ _ g⟩
  | .ob _ _ _, _, h => by obtain ⟨a, dx, xs, O', e, g, l, n, z, r⟩ := h; exact ⟨a, dx, xs, O', e, so _ _ g, l, n, z.trans so, RepTs.mono s Sub.refl r⟩
theorem RepTs.mono {K : PySem.W.Frag} {G G' O O2 : Hp} (s : Sub G G') (so : Sub O O2) : ∀ {ts : List T} {xs : List V}, RepTs K G ts xs O → RepTs K G' ts xs O2
  | [], _, h => h
  | _ :: _, _, h => by obtain ⟨x, r, A, B, e, z1, z2, dj, h1, h2⟩ := h; exact ⟨x, r, A, B, e, z1.trans so, z2.trans so, dj, RepT.mono s Sub.refl h1, RepTs.mono s Sub.refl h2⟩
end
mutual
/-- frozen: what is owned goes over to what is frozen -/
theorem RepT.frz {K : PySem.W.Frag} {G G' O : Hp} (s : Sub G G') (so : Sub O G') : ∀ {t : T} {v : V}, RepT K G t v O → Rep K G' t.d v
  | .fz _, _, h => Rep.mono s h
  | .ls _, _, h => by obtain ⟨a, xs, O', e, g, n, z, r⟩ := h; exact ⟨a, xs, e, so _ _ g, RepTs.frz s (z.trans so) r⟩
  | .dk _ _, _, h => by obtain ⟨a, xs, O', e, g, l, n, z, r⟩ := h; exact ⟨a, xs, e, so _ _ g, l, RepTs.frz s (z.trans so) r⟩
  | .dt _ _, _, h => by obtain ⟨a, xs, O', e, g, l, n, z, r⟩ := h; exact ⟨a, xs, e, so _ _ g, l, RepTs.frz s (z.trans so) r⟩
  | .st _ _, _, h => by obtain ⟨a, e, g⟩ := h; exact ⟨a, e, so _ _ g⟩
  | .ob _ _ _, _, h => by obtain ⟨a, dx, xs, O', e, g, l, n, z, r⟩ := h; exact ⟨a, dx, xs, e, so _ _ g, l, RepTs.frz s (z.trans so) r⟩
theorem RepTs.frz {K : PySem.W.Frag} {G G' O : Hp} (s : Sub G G') (so : Sub O G') : ∀ {ts : List T} {xs : List V}, RepTs K G ts xs O → Reps K G' (Ts.d ts) xs
  | [], _, h => h
  | _ :: _, _, h => by obtain ⟨x, r, A, B, e, z1, z2, dj, h1, h2⟩ := h; exact ⟨x, r, e, RepT.frz s (z1.trans so) h1, RepTs.frz s (z2.trans so) h2⟩
end
theorem Ts.d_eq : ∀ (ts : List T), Ts.d ts = ts.map T.d
  | [] => rfl
  | t :: ts => by rw [List.map_cons, ← Ts.d_eq ts]; rfl
/-- a list of frozen items -/
def fzs (ds : List D) : List T := ds.map T.fz
theorem fzs_d : ∀ (ds : List D), Ts.d (fzs ds) = ds
  | [] => rfl
  | d :: ds => by show d :: Ts.d (fzs ds) = _; rw [fzs_d ds]
section
variable {K : PySem.W.Frag} {G O : Hp}
theorem fzs_rep : ∀ {ds : List D} {xs : List V} {O : Hp}, Reps K G ds xs → RepTs K G (fzs ds) xs O
  | [], _, _, h => h
  | _ :: _, _, _, h => by obtain ⟨x, r, e, h1, h2⟩ := h; exact ⟨x, r, emp, emp, e, emp_sub, emp_sub, emp_dj, h1, fzs_rep h2⟩
theorem rep_fzs : ∀ {ds : List D} {xs : List V} {O : Hp}, RepTs K G (fzs ds) xs O → Reps K G ds xs
  | [], _, _, h => h
  | _ :: _, _, _, h => by obtain ⟨x, r, A, B, e, _, _, _, h1, h2⟩ := h; exact ⟨x, r, e, h1, rep_fzs h2⟩
theorem RepTs.length : ∀ {ts : List T} {xs : List V} {O : Hp}, RepTs K G ts xs O → ts.length = xs.length
  | [], _, _, h => by cases h; rfl
  | _ :: _, _, _, h => by obtain ⟨x, r, A, B, e, _, _, _, h1, h2⟩ := h; subst e; simp [RepTs.length h2]
end

/-! ### the frame's slots -/
abbrev Env := List (Option T)
def RepE (K : PySem.W.Frag) (G : Hp) : Env → St → Hp → Prop
  | [], σ, _ => σ = []
  | none :: ρ, σ, O => ∃ x r, σ = x :: r ∧ RepE K G ρ r O
  | some t :: ρ, σ, O => ∃ v r O1 O2, σ = some v :: r ∧ Sub O1 O ∧ Sub O2 O ∧ Dj O1 O2 ∧ RepT K G t v O1 ∧ RepE K G ρ r O2
section
variable {K : PySem.W.Frag} {G G' O O2 : Hp}
theorem RepE.mono (s : Sub G G') : ∀ {ρ : Env} {σ : St} {O O2 : Hp}, Sub O O2 → RepE K G ρ σ O → RepE K G' ρ σ O2
  | [], _, _, _, _, h => h
  | none :: _, _, _, _, so, h => by obtain ⟨x, r, e, h⟩ := h; exact ⟨x, r, e, RepE.mono s so h⟩
  | some _ :: _, _, _, _, so, h => by obtain ⟨x, r, A, B, e, z1, z2, dj, h1, h2⟩ := h; exact ⟨x, r, A, B, e, z1.trans so, z2.trans so, dj, RepT.mono s Sub.refl h1, RepE.mono s Sub.refl h2⟩
theorem RepE.length : ∀ {ρ : Env} {σ : St} {O : Hp}, RepE K G ρ σ O → ρ.length = σ.length
  | [], _, _, h => by cases h; rfl
  | none :: _, _, _, h => by obtain ⟨x, r, e, h⟩ := h; subst e; simp [RepE.length h]
  | some _ :: _, _, _, h => by obtain ⟨x, r, A, B, e, _, _, _, h1, h2⟩ := h; subst e; simp [RepE.length h2]
/-- look at one slot -/
theorem RepE.focus : ∀ {ρ : Env} {σ : St} {O : Hp} {i : Nat} {t : T}, RepE K G ρ σ O → ρ[i]? = some (some t) →
    ∃ v O1 O2, σ[i]? = some (some v) ∧ Sub O1 O ∧ Sub O2 O ∧ Dj O1 O2 ∧ RepT K G t v O1 ∧ RepE K G (ρ.set i none) σ O2
  | [], _, _, _, _, _, e => by simp at e
  | none :: _, _, _, 0, _, _, e => by simp at e
  | none :: _, _, _, i + 1, _, h, e => by
    obtain ⟨x, r, e1, h⟩ := h; subst e1
    obtain ⟨v, A, B, q1, z1, z2, dj, q2, q3⟩ := RepE.focus (i := i) h (by simpa using e)
    exact ⟨v, A, B, by simpa using q1, z1, z2, dj, q2, _, _, rfl, q3⟩
  | some _ :: _, _, _, 0, _, h, e => by
    obtain ⟨x, r, A, B, e1, z1, z2, dj, h1, h2⟩ := h; subst e1
    simp at e; subst e
    exact ⟨x, A, B, rfl, z1, z2, dj, h1, _, _, rfl, h2⟩
  | some _ :: _, _, _, i + 1, _, h, e => by
    obtain ⟨x, r, A, B, e1, z1, z2, dj, h1, h2⟩ := h; subst e1
    obtain ⟨v, C, E, q1, y1, y2, dk, q2, q3⟩ := RepE.focus (i := i) h2 (by simpa using e)
    refine ⟨v, C, jn A E, by simpa using q1, y1.trans z2, jn_sub z1 (y2.trans z2), jn_dj (dj.symm.left y1) dk, q2, _, _, A, E, rfl, jn_l, jn_r (dj.right y2), dj.right y2, h1, q3⟩
/-- a slot gets a new value -/
theorem RepE.put : ∀ {ρ : Env} {σ : St} {O2 : Hp} {i : Nat} {t : T} {v : V} {O1 : Hp}, i < ρ.length → RepE K G (ρ.set i none) σ O2 → RepT K G t v O1 → Dj O1 O2 → RepE K G (ρ.set i (some t)) (σ.set i (some v)) (jn O1 O2)
  | [], _, _, _, _, _, _, hi, _, _, _ => by simp at hi
  | _ :: _, _, _, 0, _, _, _, hi, h, ht, dj => by
    obtain ⟨x, r, e1, h⟩ := h; subst e1
    exact ⟨_, _, _, _, rfl, jn_l, jn_r dj, dj, ht, h⟩
  | none :: _, _, _, i + 1, _, _, _, hi, h, ht, dj => by
    obtain ⟨x, r, e1, h⟩ := h; subst e1
    exact ⟨_, _, rfl, RepE.put (i := i) (by simpa using hi) h ht dj⟩
  | some _ :: _, _, O2, i + 1, _, _, O1, hi, h, ht, dj => by
    obtain ⟨x, r, A, B, e1, z1, z2, dk, h1, h2⟩ := h; subst e1
    have q := RepE.put (i := i) (by simpa using hi) h2 ht (dj.right z2)
    exact ⟨_, _, A, _, rfl, z1.trans (jn_r dj), jn_sub jn_l (z2.trans (jn_r dj)), jn_dj (dj.symm.left z1) dk, h1, q⟩
/-- a slot is forgotten -/
theorem RepE.drop : ∀ {ρ : Env} {σ : St} {O : Hp} (i : Nat), RepE K G ρ σ O → RepE K G (ρ.set i none) σ O
  | [], _, _, _, h => h
  | none :: _, _, _, 0, h => h
  | none :: _, _, _, i + 1, h => by obtain ⟨x, r, e, h⟩ := h; exact ⟨x, r, e, RepE.drop i h⟩
  | some _ :: _, _, _, 0, h => by obtain ⟨x, r, A, B, e, _, z2, _, _, h2⟩ := h; exact ⟨_, r, e, RepE.mono Sub.refl z2 h2⟩
  | some _ :: _, _, _, i + 1, h => by obtain ⟨x, r, A, B, e, z1, z2, dj, h1, h2⟩ := h; exact ⟨x, r, A, B, e, z1, z2, dj, h1, RepE.drop i h2⟩
theorem RepE.setNone : ∀ {ρ : Env} {σ : St} {O : Hp} (i : Nat) (x : Option V), RepE K G ρ σ O → RepE K G (ρ.set i none) (σ.set i x) O
  | [], _, _, _, _, h => by cases h; rfl
  | none :: _, _, _, 0, _, h => by obtain ⟨x, r, e, h⟩ := h; subst e; exact ⟨_, r, rfl, h⟩
  | none :: _, _, _, i + 1, _, h => by obtain ⟨x, r, e, h⟩ := h; subst e; exact ⟨x, _, rfl, RepE.setNone i _ h⟩
  | some _ :: _, _, _, 0, _, h => by obtain ⟨x, r, A, B, e, _, z2, _, _, h2⟩ := h; subst e; exact ⟨_, r, rfl, RepE.mono Sub.refl z2 h2⟩
  | some _ :: _, _, _, i + 1, _, h => by obtain ⟨x, r, A, B, e, z1, z2, dj, h1, h2⟩ := h; subst e; exact ⟨x, _, A, B, rfl, z1, z2, dj, h1, RepE.setNone i _ h2⟩
end
end Dl

namespace Dl
open PySem L2

/-- what holds of the frame: its slots ρ over an owned part, beside the frozen part G and the others' part F -/
def Hd (K : PySem.W.Frag) (G F : Hp) (ρ : Env) (σ : St) (H : Hp) : Prop := ∃ O, Spl H G O F ∧ RepE K G ρ σ O
/-- .. and a value v in hand, of the tree τ -/
def HdT (K : PySem.W.Frag) (G F : Hp) (τ : T) (v : V) (ρ : Env) (σ : St) (H : Hp) : Prop := ∃ Ov O, Spl H G (jn Ov O) F ∧ Dj Ov O ∧ RepT K G τ v Ov ∧ RepE K G ρ σ O
/-- an exception: its class, its fields -/
structure XD where
  cls : Addr
  ns : List Str
  ds : List D
def RepX (K : PySem.W.Frag) (G : Hp) (x : XD) (c : Value) (da : Option Addr) : Prop :=
  c = .ref x.cls ∧ ((x.ns = [] ∧ da = none) ∨ ∃ d vs, da = some d ∧ G d = some (.xd (x.ns.zip vs)) ∧ x.ns.length = vs.length ∧ Reps K G x.ds vs)
theorem RepX.mono {K : PySem.W.Frag} {G G' : Hp} {x : XD} {c : Value} {da : Option Addr} (s : Sub G G') (h : RepX K G x c da) : RepX K G' x c da := by
  obtain ⟨h1, h2⟩ := h
  refine ⟨h1, h2.imp id ?_⟩
  rintro ⟨d, vs, a, b, l, r⟩
  exact ⟨d, vs, a, s _ _ b, l, Reps.mono s r⟩
theorem jn_emp {A : Hp} : jn emp A = A := rfl
section
variable {K : PySem.W.Frag} {G G' F H : Hp} {τ : T} {v : V} {ρ : Env} {σ : St} {d : D}
theorem HdT.freeze (h : HdT K G F τ v ρ σ H) : ∃ G', Sub G G' ∧ Hd K G' F ρ σ H ∧ Rep K G' τ.d v := by
  obtain ⟨Ov, O, s, dj, h1, h2⟩ := h
  exact ⟨jn G Ov, jn_l, ⟨O, s.freeze dj, h2.mono jn_l Sub.refl⟩, RepT.frz jn_l (jn_r (s.go.right jn_l)) h1⟩
theorem Hd.fz (h : Hd K G F ρ σ H) (r : Rep K G d v) : HdT K G F (.fz d) v ρ σ H := by
  obtain ⟨O, s, h⟩ := h
  exact ⟨emp, O, s, emp_dj, r, h⟩
theorem HdT.drop (h : HdT K G F τ v ρ σ H) : Hd K G F ρ σ H := by
  obtain ⟨Ov, O, s, dj, h1, h2⟩ := h
  exact ⟨O, s.sub (jn_r dj), h2⟩
theorem HdT.fz (h : HdT K G F (.fz d) v ρ σ H) : Rep K G d v := by
  obtain ⟨Ov, O, s, dj, h1, h2⟩ := h
  exact h1
/-- the value in hand is given to the others' part while something else runs -/
theorem HdT.frame (h : HdT K G F τ v ρ σ H) : ∃ Ov, RepT K G τ v Ov ∧ Dj Ov F ∧ Hd K G (jn Ov F) ρ σ H := by
  obtain ⟨Ov, O, s, dj, h1, h2⟩ := h
  exact ⟨Ov, h1, s.of.left jn_l, O, s.frame dj, h2⟩
theorem Hd.unframe {Ov : Hp} (h : Hd K G (jn Ov F) ρ σ H) (r : RepT K G τ v Ov) (d : Dj Ov F) : HdT K G F τ v ρ σ H := by
  obtain ⟨O, s, h2⟩ := h
  have dj : Dj Ov O := (s.of.right jn_l).symm
  refine ⟨Ov, O, ⟨s.g, jn_sub (jn_l.trans s.f) s.o, (jn_r d).trans s.f, jn_dj (s.gf.right jn_l) s.go, s.gf.right (jn_r d), dj_jn d (s.of.right (jn_r d))⟩, dj, r, h2⟩
theorem Hd.sl (h : Hd K G F ρ σ H) : Sub G H := let ⟨_, s, _⟩ := h; s.g
theorem Hd.length (h : Hd K G F ρ σ H) : ρ.length = σ.length := let ⟨_, _, h⟩ := h; h.length
/-- a new cell, frozen -/
theorem Hd.newG {a : Addr} {u : HO} (h : Hd K G F ρ σ H) (e : H a = none) : Sub G (upd G a u) ∧ Hd K (upd G a u) F ρ σ (upd H a u) := by
  obtain ⟨O, s, h⟩ := h
  have g := sub_self_upd (o := u) (s.nf e).1
  exact ⟨g, O, s.newG e, h.mono g Sub.refl⟩
/-- a new list, owned -/
theorem Hd.newL {a : Addr} {xs : List V} {ds : List D} (h : Hd K G F ρ σ H) (e : H a = none) (r : Reps K G ds xs) : HdT K G F (.ls (fzs ds)) (.ref a) ρ σ (upd H a (.lst xs)) := by
  obtain ⟨O, s, h⟩ := h
  have q := s.newO (u := .lst xs) e
  have n := (s.nf e).2.1
  have dj : Dj (one a (.lst xs)) O := (dj_one n).symm
  refine ⟨one a (.lst xs), O, ⟨q.g, jn_sub ((one_sub (by rw [upd_same])).trans q.o) ((sub_self_upd n).trans q.o), q.f, jn_dj ?_ s.go, q.gf, dj_jn ?_ s.of⟩, dj, ⟨a, xs, emp, rfl, one_same, rfl, emp_sub, fzs_rep r⟩, h⟩
  · exact dj_one (s.nf e).1
  · exact (dj_one (s.nf e).2.2).symm
end

/-! ### readings over data -/
abbrev XQ := XD → Env → Prop
abbrev TDE := Env → (T → Env → Prop) → XQ → Prop
abbrev TDD := Env → (D → Env → Prop) → XQ → Prop
abbrev TDT := Env → (Bool → Env → Prop) → XQ → Prop
abbrev EK := St → XK
/-- what must be said of an exception -/
def OnX (K : PySem.W.Frag) (E : EK) (G F : Hp) (σ : St) (QX : XQ) : Prop := ∀ G' H' x ρ' c da, Sub G G' → Hd K G' F ρ' σ H' → RepX K G' x c da → QX x ρ' → E σ c da H'
theorem OnX.mono {K : PySem.W.Frag} {E : EK} {G G' F : Hp} {σ : St} {QX : XQ} (h : OnX K E G F σ QX) (s : Sub G G') : OnX K E G' F σ QX := fun G2 H' x ρ' c da z => h G2 H' x ρ' c da (s.trans z)
structure LE (K : PySem.W.Frag) (E : EK) (te : TE) (t : TDE) : Prop where
  run : ∀ ρ Q QX, t ρ Q QX → ∀ G F σ H R, Hd K G F ρ σ H → (∀ G' H' τ ρ' v, Sub G G' → HdT K G' F τ v ρ' σ H' → Q τ ρ' → R v H') → OnX K E G F σ QX → te σ H R
structure LD (K : PySem.W.Frag) (E : EK) (te : TE) (t : TDD) : Prop where
  run : ∀ ρ Q QX, t ρ Q QX → ∀ G F σ H R, Hd K G F ρ σ H → (∀ G' H' d ρ' v, Sub G G' → Hd K G' F ρ' σ H' → Rep K G' d v → Q d ρ' → R v H') → OnX K E G F σ QX → te σ H R
structure LT (K : PySem.W.Frag) (E : EK) (te : TT) (t : TDT) : Prop where
  run : ∀ ρ Q QX, t ρ Q QX → ∀ G F σ H R, Hd K G F ρ σ H → (∀ G' H' b ρ', Sub G G' → Hd K G' F ρ' σ H' → Q b ρ' → R b H') → OnX K E G F σ QX → te σ H R
/-- an argument: data, or a slot whose tree is lent -/
inductive Arg where
  | d (d : D) | io (i : Nat)
def RepA (K : PySem.W.Frag) (G : Hp) (σ : St) : Arg → V → Prop
  | .d d, v => Rep K G d v
  | .io i, v => σ[i]? = some (some v)
abbrev TDA := Env → (List Arg → Env → Prop) → XQ → Prop
structure LA (K : PySem.W.Frag) (E : EK) (te : TA) (t : TDA) : Prop where
  run : ∀ ρ Q QX, t ρ Q QX → ∀ G F σ H R, Hd K G F ρ σ H → (∀ G' H' as ρ' vs, Sub G G' → Hd K G' F ρ' σ H' → Paired (RepA K G' σ) as vs → Q as ρ' → R vs H') → OnX K E G F σ QX → te σ H R

/-- an expression, its two readings -/
structure DE (K : PySem.W.Frag) (X : Cx) (E : EK) (e : Expr) (te : TE) (t : TDE) : Prop where
  hK : X.K = K
  pe : PE X e te
  le : LE K E te t
structure DD (K : PySem.W.Frag) (X : Cx) (E : EK) (e : Expr) (te : TE) (t : TDD) : Prop where
  hK : X.K = K
  pe : PE X e te
  ld : LD K E te t
structure DT (K : PySem.W.Frag) (X : Cx) (E : EK) (e : Expr) (te : TT) (t : TDT) : Prop where
  hK : X.K = K
  pt : PT X e te
  lt : LT K E te t
structure DW (K : PySem.W.Frag) (X : Cx) (E : EK) (e : Expr) (te : TT) (t : TDT) : Prop where
  hK : X.K = K
  pw : PW X e te
  lt : LT K E te t
structure DA (K : PySem.W.Frag) (X : Cx) (E : EK) (es : List Expr) (ta : TA) (t : TDA) : Prop where
  hK : X.K = K
  pa : PA X es ta
  la : LA K E ta t

/-! ### questions that are answered one at a time: what stands behind them is left as it is -/
/-- what bears such a mark is not looked into -/
inductive Tg {α : Sort u} (a : α) : Type
  | mk : Tg a
def IfG (c : Bool) (A B : Prop) (_ta : Tg A := .mk) (_tb : Tg B := .mk) : Prop := if c = true then A else B
theorem ifG_tt {A B : Prop} (h : IfG true A B) : A := h
theorem ifG_ff {A B : Prop} (h : IfG false A B) : B := h
theorem ifG_true {A B : Prop} : IfG true A B = A := rfl
theorem ifG_false {A B : Prop} : IfG false A B = B := rfl
theorem ifG {c : Bool} {A B : Prop} (h1 : c = true → A) (h2 : c = false → B) : IfG c A B := by
  cases c with
  | true => exact h1 rfl
  | false => exact h2 rfl
theorem ifD {p : Prop} [Decidable p] {A B : Prop} (h1 : p → A) (h2 : ¬ p → B) : IfG (decide p) A B := by
  by_cases h : p
  · rw [decide_eq_true h]; exact h1 h
  · rw [decide_eq_false h]; exact h2 h
def ExG {α : Type} (P : α → Prop) (k : α → Prop) (_t : Tg k := .mk) : Prop := ∃ d, P d ∧ k d
theorem exG_eq {α : Type} (a : α) (k : α → Prop) : ExG (fun d => a = d) k = k a := by
  unfold ExG; exact propext ⟨fun ⟨d, e, h⟩ => e ▸ h, fun h => ⟨a, rfl, h⟩⟩
theorem exG {α : Type} {P : α → Prop} {k : α → Prop} (d : α) (h : P d) (q : k d) : ExG P k := ⟨d, h, q⟩

/-- the value frozen -/
def dFz (t : TDE) (ρ : Dl.Env) (Q : D → Dl.Env → Prop) (QX : XQ) : Prop := t ρ (fun τ ρ' => Q τ.d ρ') QX
/-- data as a tree -/
def dUp (t : TDD) (ρ : Dl.Env) (Q : T → Dl.Env → Prop) (QX : XQ) : Prop := t ρ (fun d ρ' => Q (.fz d) ρ') QX
section
variable {K : PySem.W.Frag} {E : EK} {te ta tb : TE}
theorem LE.fz {t : TDE} (h : LE K E te t) : LD K E te (dFz t) := ⟨fun ρ Q QX ht G F σ H R hd k kx =>
  h.run ρ _ QX ht G F σ H R hd (fun G' H' τ ρ' v s hdt q => by
    obtain ⟨G2, s2, hd2, r2⟩ := hdt.freeze
    exact k G2 H' τ.d ρ' v (s.trans s2) hd2 r2 q) kx⟩
theorem LD.up {t : TDD} (h : LD K E te t) : LE K E te (dUp t) := ⟨fun ρ Q QX ht G F σ H R hd k kx =>
  h.run ρ _ QX ht G F σ H R hd (fun G' H' d ρ' v s hd' r q => k G' H' (.fz d) ρ' v s (hd'.fz r) q) kx⟩

/-! ### slots -/
def slot : Env → Nat → Option T
  | [], _ => none
  | x :: _, 0 => x
  | _ :: r, n + 1 => slot r n
theorem slot_eq : ∀ {ρ : Env} {i : Nat} {t : T}, slot ρ i = some t → ρ[i]? = some (some t)
  | [], _, _, h => nomatch h
  | x :: _, 0, _, h => by show some x = _; rw [show x = _ from h]
  | _ :: r, i + 1, _, h => by simpa using slot_eq (ρ := r) h
/-- a name, read: what it holds is frozen -/
def dVar (i : Nat) (ρ : Dl.Env) (Q : D → Dl.Env → Prop) (QX : XQ) : Prop := match slot ρ i with
  | some τ => Q τ.d (ρ.set i (some (.fz τ.d)))
  | none => False
theorem Hd.focus {G F H : Hp} {ρ : Env} {σ : St} {i : Nat} {τ : T} (h : Hd K G F ρ σ H) (e : slot ρ i = some τ) : ∃ v, σ[i]? = some (some v) ∧ HdT K G F τ v (ρ.set i none) σ H := by
  obtain ⟨O, s, h⟩ := h
  obtain ⟨v, O1, O2, q1, z1, z2, dj, r1, r2⟩ := h.focus (slot_eq e)
  exact ⟨v, q1, O1, O2, s.sub (jn_sub z1 z2), dj, r1, r2⟩
theorem set_self' {α : Type} : ∀ {l : List α} {i : Nat} {x : α}, l[i]? = some x → l.set i x = l
  | [], _, _, _ => rfl
  | _ :: _, 0, _, h => by simp at h; subst h; rfl
  | _ :: r, i + 1, _, h => by simp at h; show _ :: r.set i _ = _; rw [set_self' (l := r) (by simpa using h)]
theorem HdT.put {G F H : Hp} {ρ : Env} {σ : St} {i : Nat} {τ : T} {v : V} (hi : i < ρ.length) (h : HdT K G F τ v (ρ.set i none) σ H) : Hd K G F (ρ.set i (some τ)) (σ.set i (some v)) H := by
  obtain ⟨Ov, O, s, dj, h1, h2⟩ := h
  exact ⟨_, s, h2.put hi h1 dj⟩
theorem slot_lt : ∀ {ρ : Env} {i : Nat} {t : T}, slot ρ i = some t → i < ρ.length
  | [], _, _, h => nomatch h
  | _ :: _, 0, _, h => by simp
  | _ :: r, i + 1, _, h => by simpa using slot_lt (ρ := r) h
theorem HdT.back {G F H : Hp} {ρ : Env} {σ : St} {i : Nat} {τ : T} {v : V} (hi : i < ρ.length) (e : σ[i]? = some (some v)) (h : HdT K G F τ v (ρ.set i none) σ H) : Hd K G F (ρ.set i (some τ)) σ H := by
  have := h.put hi
  rwa [set_self' e] at this
theorem ld_var {i : Nat} : LD K E (tVar i) (dVar i) := ⟨fun ρ Q QX ht G F σ H R hd k kx => by
  unfold dVar at ht
  cases e : slot ρ i with
  | none => rw [e] at ht; exact ht.elim
  | some τ =>
    rw [e] at ht
    obtain ⟨v, q1, h1⟩ := hd.focus e
    obtain ⟨G2, s2, hd2, r2⟩ := h1.freeze
    exact ⟨v, q1, k G2 H τ.d _ v s2 ((hd2.fz r2).back (slot_lt e) q1) r2 ht⟩⟩
def dC (d : D) (ρ : Dl.Env) (Q : D → Dl.Env → Prop) (QX : XQ) : Prop := Q d ρ
theorem ld_c {v : V} {d : D} (r : ∀ G, Rep K G d v) : LD K E (tC v) (dC d) := ⟨fun ρ Q QX ht G F σ H R hd k kx => k G H d ρ v Sub.refl hd (r G) ht⟩

/-! ### operations on two data -/
/-- what two values give, over data -/
structure Op2 (K : PySem.W.Frag) (r : R2) (f : D → D → (T → Prop) → Prop) : Prop where
  run : ∀ x y k, f x y k → ∀ G F ρ σ H vx vy R, Hd K G F ρ σ H → Rep K G x vx → Rep K G y vy → (∀ G' H' τ v, Sub G G' → HdT K G' F τ v ρ σ H' → k τ → R v H') → r vx vy H R
structure Op1 (K : PySem.W.Frag) (r : V → Hp → VK → Prop) (f : D → (T → Prop) → Prop) : Prop where
  run : ∀ x k, f x k → ∀ G F ρ σ H vx R, Hd K G F ρ σ H → Rep K G x vx → (∀ G' H' τ v, Sub G G' → HdT K G' F τ v ρ σ H' → k τ → R v H') → r vx H R
def dOp (f : D → D → (T → Prop) → Prop) (a b : TDD) (ρ : Dl.Env) (Q : T → Dl.Env → Prop) (QX : XQ) : Prop := a ρ (fun x ρ1 => b ρ1 (fun y ρ2 => f x y fun τ => Q τ ρ2) QX) QX
def dUn (f : D → (T → Prop) → Prop) (a : TDD) (ρ : Dl.Env) (Q : T → Dl.Env → Prop) (QX : XQ) : Prop := a ρ (fun x ρ1 => f x fun τ => Q τ ρ1) QX
theorem le_op {r : R2} {f : D → D → (T → Prop) → Prop} {a b : TDD} (hf : Op2 K r f) (ha : LD K E ta a) (hb : LD K E tb b) : LE K E (tOp r ta tb) (dOp f a b) := ⟨fun ρ Q QX ht G F σ H R hd k kx =>
  ha.run ρ _ QX ht G F σ H _ hd (fun G1 H1 x ρ1 vx s1 hd1 r1 q1 => hb.run ρ1 _ QX q1 G1 F σ H1 _ hd1 (fun G2 H2 y ρ2 vy s2 hd2 r2 q2 =>
    hf.run x y _ q2 G2 F ρ2 σ H2 vx vy R hd2 (r1.mono s2) r2 fun G3 H3 τ v s3 hd3 q3 => k G3 H3 τ ρ2 v (s1.trans (s2.trans s3)) hd3 q3) (kx.mono s1)) kx⟩
theorem le_un {r : V → Hp → VK → Prop} {f : D → (T → Prop) → Prop} {a : TDD} (hf : Op1 K r f) (ha : LD K E ta a) : LE K E (tUn r ta) (dUn f a) := ⟨fun ρ Q QX ht G F σ H R hd k kx =>
  ha.run ρ _ QX ht G F σ H _ hd (fun G1 H1 x ρ1 vx s1 hd1 r1 q1 =>
    hf.run x _ q1 G1 F ρ1 σ H1 vx R hd1 r1 fun G3 H3 τ v s3 hd3 q3 => k G3 H3 τ ρ1 v (s1.trans s3) hd3 q3) kx⟩
/-- either of two -/
theorem Op2.or {r r' : R2} {f f' : D → D → (T → Prop) → Prop} (h : Op2 K r f) (h' : Op2 K r' f') : Op2 K (fun x y H Q => r x y H Q ∨ r' x y H Q) (fun x y k => f x y k ∨ f' x y k) := ⟨fun x y k hf G F ρ σ H vx vy R hd r1 r2 kk => by
  rcases hf with hf | hf
  · exact .inl (h.run x y k hf G F ρ σ H vx vy R hd r1 r2 kk)
  · exact .inr (h'.run x y k hf G F ρ σ H vx vy R hd r1 r2 kk)⟩
theorem Op2.imp {r : R2} {f f' : D → D → (T → Prop) → Prop} (h : Op2 K r f) (hi : ∀ x y k, f' x y k → f x y k) : Op2 K r f' := ⟨fun x y k hf => h.run x y k (hi x y k hf)⟩
end
end Dl

namespace Dl
open PySem L2

/-! ### framing a value in hand -/
section
variable {K : PySem.W.Frag} {G G' F H H' Ov : Hp} {τ τ' : T} {v v' : V} {ρ : Env} {σ : St} {i : Nat}
theorem Hd.subF {F' : Hp} (h : Hd K G F ρ σ H) (s : Sub F' F) : Hd K G F' ρ σ H := by
  obtain ⟨O, p, h⟩ := h
  exact ⟨O, ⟨p.g, p.o, s.trans p.f, p.go, p.gf.right s, p.of.right s⟩, h⟩
theorem HdT.subF {F' : Hp} (h : HdT K G F τ v ρ σ H) (s : Sub F' F) : HdT K G F' τ v ρ σ H := by
  obtain ⟨Ov, O, p, d, h⟩ := h
  exact ⟨Ov, O, ⟨p.g, p.o, s.trans p.f, p.go, p.gf.right s, p.of.right s⟩, d, h⟩
/-- a value in hand, and one lent out of a slot goes back -/
theorem HdT.backs (h : HdT K G' (jn Ov F) τ' v' (ρ.set i none) σ H') (r : RepT K G τ v Ov) (s : Sub G G') (d : Dj Ov F) (hi : i < ρ.length) (e : σ[i]? = some (some v)) : HdT K G' F τ' v' (ρ.set i (some τ)) σ H' := by
  obtain ⟨Ow, O, p, dj, h1, h2⟩ := h
  have d1 : Dj Ow Ov := ((p.of.left jn_l).right jn_l)
  have d2 : Dj O Ov := ((p.of.left (jn_r dj)).right jn_l)
  have q := h2.put hi (r.mono s Sub.refl) d2.symm
  rw [set_self' e] at q
  refine ⟨Ow, jn Ov O, ⟨p.g, ?_, (jn_r d).trans p.f, ?_, p.gf.right (jn_r d), ?_⟩, jn_dj d1 dj, h1, q⟩
  · exact jn_sub (jn_l.trans p.o) (jn_sub (jn_l.trans p.f) ((jn_r dj).trans p.o))
  · exact jn_dj (p.go.right jn_l) (jn_dj (p.gf.right jn_l) (p.go.right (jn_r dj)))
  · exact dj_jn ((p.of.left jn_l).right (jn_r d)) (dj_jn d ((p.of.left (jn_r dj)).right (jn_r d)))
theorem Hd.backs (h : Hd K G' (jn Ov F) (ρ.set i none) σ H') (r : RepT K G τ v Ov) (s : Sub G G') (d : Dj Ov F) (hi : i < ρ.length) (e : σ[i]? = some (some v)) : Hd K G' F (ρ.set i (some τ)) σ H' :=
  HdT.back hi e (Hd.unframe h (r.mono s Sub.refl) d)
theorem set_twice {α : Type} : ∀ {l : List α} {i : Nat} {x y : α}, (l.set i x).set i y = l.set i y
  | [], _, _, _ => rfl
  | _ :: _, 0, _, _ => rfl
  | _ :: r, i + 1, _, _ => by show _ :: (r.set i _).set i _ = _ :: r.set i _; rw [set_twice]
theorem set_slot : ∀ {ρ : Env} {i : Nat} {t : T}, slot ρ i = some t → ρ.set i (some t) = ρ := fun h => set_self' (slot_eq h)
theorem HdT.ov (h : HdT K G F τ v ρ σ H) : Sub G H := by
  obtain ⟨_, _, p, _⟩ := h
  exact p.g
end

/-! ### one value, perhaps owned, read -/
structure B1 (K : PySem.W.Frag) (r : V → Hp → VK → Prop) (f : T → (T → Prop) → Prop) : Prop where
  run : ∀ τ k, f τ k → ∀ G F ρ σ H v Ov R, RepT K G τ v Ov → Sub Ov H → Hd K G F ρ σ H → (∀ G' H' τ' v', Sub G G' → HdT K G' F τ' v' ρ σ H' → k τ' → R v' H') → r v H R
structure B2 (K : PySem.W.Frag) (r : R2) (f : T → D → (T → Prop) → Prop) : Prop where
  run : ∀ τ y k, f τ y k → ∀ G F ρ σ H v vy Ov R, RepT K G τ v Ov → Sub Ov H → Rep K G y vy → Hd K G F ρ σ H → (∀ G' H' τ' v', Sub G G' → HdT K G' F τ' v' ρ σ H' → k τ' → R v' H') → r v vy H R
/-- the right one perhaps owned -/
structure B2R (K : PySem.W.Frag) (r : R2) (f : D → T → (T → Prop) → Prop) : Prop where
  run : ∀ x τ k, f x τ k → ∀ G F ρ σ H vx v Ov R, Rep K G x vx → RepT K G τ v Ov → Sub Ov H → Hd K G F ρ σ H → (∀ G' H' τ' v', Sub G G' → HdT K G' F τ' v' ρ σ H' → k τ' → R v' H') → r vx v H R
def bUn (f : T → (T → Prop) → Prop) (a : TDE) (ρ : Dl.Env) (Q : T → Dl.Env → Prop) (QX : XQ) : Prop := a ρ (fun τ ρ1 => f τ fun τ' => Q τ' ρ1) QX
def bUnV (f : T → (T → Prop) → Prop) (i : Nat) (ρ : Dl.Env) (Q : T → Dl.Env → Prop) (QX : XQ) : Prop := match slot ρ i with
  | some τ => f τ fun τ' => Q τ' ρ
  | none => False
def bOp (f : T → D → (T → Prop) → Prop) (a : TDE) (b : TDD) (ρ : Dl.Env) (Q : T → Dl.Env → Prop) (QX : XQ) : Prop := a ρ (fun τ ρ1 => b ρ1 (fun y ρ2 => f τ y fun τ' => Q τ' ρ2) QX) QX
def bOpV (f : T → D → (T → Prop) → Prop) (i : Nat) (b : TDD) (ρ : Dl.Env) (Q : T → Dl.Env → Prop) (QX : XQ) : Prop := match slot ρ i with
  | some _ => b ρ (fun y ρ2 => match slot ρ2 i with
    | some τ => f τ y fun τ' => Q τ' ρ2
    | none => False) QX
  | none => False
/-- the slot's value is there: ahead of b -/
def bOpR (f : D → T → (T → Prop) → Prop) (a : TDD) (b : TDE) (ρ : Dl.Env) (Q : T → Dl.Env → Prop) (QX : XQ) : Prop := a ρ (fun x ρ1 => b ρ1 (fun τ ρ2 => f x τ fun τ' => Q τ' ρ2) QX) QX
def bOpRV (f : D → T → (T → Prop) → Prop) (a : TDD) (i : Nat) (ρ : Dl.Env) (Q : T → Dl.Env → Prop) (QX : XQ) : Prop := a ρ (fun x ρ1 => match slot ρ1 i with
  | some τ => f x τ fun τ' => Q τ' ρ1
  | none => False) QX
section
variable {K : PySem.W.Frag} {E : EK} {te ta tb : TE} {i : Nat}
/-- lend a slot's tree -/
theorem Hd.lend {G F H : Hp} {ρ : Env} {σ : St} {τ : T} (h : Hd K G F ρ σ H) (e : slot ρ i = some τ) : ∃ v Ov, σ[i]? = some (some v) ∧ RepT K G τ v Ov ∧ Dj Ov F ∧ Sub Ov H ∧ Hd K G (jn Ov F) (ρ.set i none) σ H := by
  obtain ⟨v, q, h1⟩ := h.focus e
  obtain ⟨Ov, r, d, h2⟩ := h1.frame
  have : Sub Ov H := by
    obtain ⟨O, p, _⟩ := h2
    exact jn_l.trans p.f
  exact ⟨v, Ov, q, r, d, this, h2⟩
theorem le_un1 {r : V → Hp → VK → Prop} {f : T → (T → Prop) → Prop} {a : TDE} (hf : B1 K r f) (ha : LE K E ta a) : LE K E (tUn r ta) (bUn f a) := ⟨fun ρ Q QX ht G F σ H R hd k kx =>
  ha.run ρ _ QX ht G F σ H _ hd (fun G1 H1 τ ρ1 v s1 hd1 q1 => by
    obtain ⟨Ov, r1, d1, h2⟩ := hd1.frame
    have so : Sub Ov H1 := by
      obtain ⟨O, p, _⟩ := h2
      exact jn_l.trans p.f
    exact hf.run τ _ q1 G1 (jn Ov F) ρ1 σ H1 v Ov R r1 so h2 fun G2 H2 τ' v' s2 h3 q2 => k G2 H2 τ' ρ1 v' (s1.trans s2) (h3.subF (jn_r d1)) q2) kx⟩
theorem le_un1V {r : V → Hp → VK → Prop} {f : T → (T → Prop) → Prop} (hf : B1 K r f) : LE K E (tUn r (tVar i)) (bUnV f i) := ⟨fun ρ Q QX ht G F σ H R hd k kx => by
  unfold bUnV at ht
  cases e : slot ρ i with
  | none => rw [e] at ht; exact ht.elim
  | some τ =>
    rw [e] at ht
    obtain ⟨v, Ov, q, r1, d1, so, h2⟩ := hd.lend e
    refine ⟨v, q, ?_⟩
    refine hf.run τ _ ht G (jn Ov F) _ σ H v Ov R r1 so h2 fun G2 H2 τ' v' s2 h3 q2 => k G2 H2 τ' ρ v' s2 ?_ q2
    have := h3.backs r1 s2 d1 (slot_lt e) q
    rwa [set_slot e] at this⟩
theorem le_op1 {r : R2} {f : T → D → (T → Prop) → Prop} {a : TDE} {b : TDD} (hf : B2 K r f) (ha : LE K E ta a) (hb : LD K E tb b) : LE K E (tOp r ta tb) (bOp f a b) := ⟨fun ρ Q QX ht G F σ H R hd k kx =>
  ha.run ρ _ QX ht G F σ H _ hd (fun G1 H1 τ ρ1 v s1 hd1 q1 => by
    obtain ⟨Ov, r1, d1, h2⟩ := hd1.frame
    refine hb.run ρ1 _ QX q1 G1 (jn Ov F) σ H1 _ h2 (fun G2 H2 y ρ2 vy s2 hd2 r2 q2 => ?_) fun G2 H2 x ρ2 c da s2 hd2 rx qx => kx G2 H2 x ρ2 c da (s1.trans s2) (hd2.subF (jn_r d1)) rx qx
    have so : Sub Ov H2 := by
      obtain ⟨O, p, _⟩ := hd2
      exact jn_l.trans p.f
    exact hf.run τ y _ q2 G2 (jn Ov F) ρ2 σ H2 v vy Ov R (r1.mono s2 Sub.refl) so r2 hd2 fun G3 H3 τ' v' s3 h3 q3 => k G3 H3 τ' ρ2 v' (s1.trans (s2.trans s3)) (h3.subF (jn_r d1)) q3) kx⟩
theorem le_op1V {r : R2} {f : T → D → (T → Prop) → Prop} {b : TDD} (hf : B2 K r f) (hb : LD K E tb b) : LE K E (tOp r (tVar i) tb) (bOpV f i b) := ⟨fun ρ Q QX ht G F σ H R hd k kx => by
  unfold bOpV at ht
  cases e0 : slot ρ i with
  | none => rw [e0] at ht; exact ht.elim
  | some τ0 =>
    rw [e0] at ht
    obtain ⟨v, Ov0, q, _⟩ := hd.lend e0
    refine ⟨v, q, ?_⟩
    refine hb.run ρ _ QX ht G F σ H _ hd (fun G1 H1 y ρ1 vy s1 hd1 r1 q1 => ?_) kx
    cases e : slot ρ1 i with
    | none => rw [e] at q1; exact q1.elim
    | some τ =>
      rw [e] at q1
      obtain ⟨v', Ov, q', rv, d1, so, h2⟩ := hd1.lend e
      rw [q] at q'; cases q'
      refine hf.run τ y _ q1 G1 (jn Ov F) _ σ H1 v vy Ov R rv so r1 h2 fun G2 H2 τ' v' s2 h3 q2 => k G2 H2 τ' ρ1 v' (s1.trans s2) ?_ q2
      have := h3.backs rv s2 d1 (slot_lt e) q
      rwa [set_slot e] at this⟩
theorem le_opR {r : R2} {f : D → T → (T → Prop) → Prop} {a : TDD} {b : TDE} (hf : B2R K r f) (ha : LD K E ta a) (hb : LE K E tb b) : LE K E (tOp r ta tb) (bOpR f a b) := ⟨fun ρ Q QX ht G F σ H R hd k kx =>
  ha.run ρ _ QX ht G F σ H _ hd (fun G1 H1 x ρ1 vx s1 hd1 rx q1 =>
    hb.run ρ1 _ QX q1 G1 F σ H1 _ hd1 (fun G2 H2 τ ρ2 v s2 hd2 q2 => by
      obtain ⟨Ov, r1, d1, h2⟩ := hd2.frame
      have so : Sub Ov H2 := by
        obtain ⟨O, p, _⟩ := h2
        exact jn_l.trans p.f
      exact hf.run x τ _ q2 G2 (jn Ov F) ρ2 σ H2 vx v Ov R (rx.mono s2) r1 so h2 fun G3 H3 τ' v' s3 h3 q3 => k G3 H3 τ' ρ2 v' (s1.trans (s2.trans s3)) (h3.subF (jn_r d1)) q3) (kx.mono s1)) kx⟩
theorem le_opRV {r : R2} {f : D → T → (T → Prop) → Prop} {a : TDD} (hf : B2R K r f) (ha : LD K E ta a) : LE K E (tOp r ta (tVar i)) (bOpRV f a i) := ⟨fun ρ Q QX ht G F σ H R hd k kx =>
  ha.run ρ _ QX ht G F σ H _ hd (fun G1 H1 x ρ1 vx s1 hd1 rx q1 => by
    cases e : slot ρ1 i with
    | none => rw [e] at q1; exact q1.elim
    | some τ =>
      rw [e] at q1
      obtain ⟨v, Ov, q, r1, d1, so, h2⟩ := hd1.lend e
      refine ⟨v, q, ?_⟩
      refine hf.run x τ _ q1 G1 (jn Ov F) _ σ H1 vx v Ov R rx r1 so h2 fun G2 H2 τ' v' s2 h3 q2 => k G2 H2 τ' ρ1 v' (s1.trans s2) ?_ q2
      have := h3.backs r1 s2 d1 (slot_lt e) q
      rwa [set_slot e] at this) kx⟩
end
end Dl

namespace Dl
open PySem L2

section
variable {K : PySem.W.Frag} {G G' F H Ov : Hp} {ρ : Env} {σ : St}
/-- nothing is made: a scalar -/
theorem Hd.ret (h : Hd K G F ρ σ H) {d : D} {v : V} {k : T → Prop} {R : VK} (kk : ∀ G' H' τ' v', Sub G G' → HdT K G' F τ' v' ρ σ H' → k τ' → R v' H') (r : Rep K G d v) (q : k (.fz d)) : R v H :=
  kk G H (.fz d) v Sub.refl (h.fz r) q
/-- a new list -/
theorem Hd.retL (h : Hd K G F ρ σ H) {ds : List D} {xs : List V} {k : T → Prop} {R : VK} (kk : ∀ G' H' τ' v', Sub G G' → HdT K G' F τ' v' ρ σ H' → k τ' → R v' H') (r : Reps K G ds xs) (q : k (.ls (fzs ds))) :
    ∀ p, H p = none → R (.ref p) (upd H p (.lst xs)) := fun p np => kk G _ _ _ Sub.refl (h.newL np r) q
/-- a new tuple -/
theorem Hd.retT (h : Hd K G F ρ σ H) {ds : List D} {xs : List V} {k : T → Prop} {R : VK} (kk : ∀ G' H' τ' v', Sub G G' → HdT K G' F τ' v' ρ σ H' → k τ' → R v' H') (r : Reps K G ds xs) (q : k (.fz (.tup ds))) :
    ∀ p, H p = none → R (.ref p) (upd H p (.tup xs)) := fun p np => by
  obtain ⟨s, h2⟩ := h.newG (u := .tup xs) np
  refine kk _ _ _ _ s (h2.fz (d := .tup ds) ⟨p, xs, rfl, SqT.of upd_same, r.mono s⟩) q
theorem Hd.lst (h : Hd K G F ρ σ H) {ds : List D} {v : V} (r : Rep K G (.lst ds) v) : ∃ a xs, v = .ref a ∧ H a = some (.lst xs) ∧ Reps K G ds xs := by
  obtain ⟨a, xs, e, g, r⟩ := r
  exact ⟨a, xs, e, h.sl _ _ g, r⟩
theorem Hd.tup (h : Hd K G F ρ σ H) {ds : List D} {v : V} (r : Rep K G (.tup ds) v) : ∃ a xs, v = .ref a ∧ SqT K H a xs ∧ Reps K G ds xs := by
  obtain ⟨a, xs, e, g, r⟩ := r
  exact ⟨a, xs, e, SqT.sub h.sl g, r⟩
end

/-! ### ints -/
def fI (C : Int → Int → Prop) (g : Int → Int → D) : D → D → (T → Prop) → Prop := fun x y k => match x, y with
  | .int i, .int j => C i j ∧ k (.fz (g i j))
  | _, _ => False
def fI0 (g : Int → Int → D) : D → D → (T → Prop) → Prop := fun x y k => match x, y with
  | .int i, .int j => k (.fz (g i j))
  | _, _ => False
section
variable {K : PySem.W.Frag}
theorem o2_int {C : Int → Int → Prop} {g : Int → Int → V} {g' : Int → Int → D} (hg : ∀ i j G, Rep K G (g' i j) (g i j)) : Op2 K (rI C g) (fI C g') := ⟨fun x y k hf G F ρ σ H vx vy R hd r1 r2 kk => by
  unfold fI at hf
  split at hf
  · obtain ⟨hc, q⟩ := hf
    exact ⟨_, _, r1, r2, hc, hd.ret kk (hg _ _ _) q⟩
  · exact hf.elim⟩
theorem o2_int0 {g : Int → Int → V} {g' : Int → Int → D} (hg : ∀ i j G, Rep K G (g' i j) (g i j)) : Op2 K (rI0 g) (fI0 g') := ⟨fun x y k hf G F ρ σ H vx vy R hd r1 r2 kk => by
  unfold fI0 at hf
  split at hf
  · exact ⟨_, _, r1, r2, hd.ret kk (hg _ _ _) hf⟩
  · exact hf.elim⟩
/-- a + b of any kind -/
def fAdd : D → D → (T → Prop) → Prop := fun x y k => match x, y with
  | .int i, .int j => k (.fz (.int (i + j)))
  | .str a, .str b => a.length + b.length ≤ sizeLine ∧ k (.fz (.str (a ++ b)))
  | .lst a, .lst b => a.length + b.length ≤ sizeLine ∧ k (.ls (fzs (a ++ b)))
  | .tup a, .tup b => a.length + b.length ≤ sizeLine ∧ k (.fz (.tup (a ++ b)))
  | _, _ => False
def rAddS : R2 := fun x y H Q => ∃ i j, x = .str i ∧ y = .str j ∧ i.length + j.length ≤ sizeLine ∧ Q (.str (i ++ j)) H
def rAddG (K : PySem.W.Frag) : R2 := fun x y H Q => rI0 (fun i j => .int (i + j)) x y H Q ∨ rAddS x y H Q ∨ rCat x y H Q ∨ rCatA K x y H Q
theorem op_addG {X : Cx} : OpR X (binaryOp .Add) (rAddG X.K) := op_add.or (OpR.or op_add_str (op_cat.or op_catA))
theorem o2_add : Op2 K (rAddG K) fAdd := ⟨fun x y k hf G F ρ σ H vx vy R hd r1 r2 kk => by
  unfold fAdd at hf
  split at hf
  · exact .inl ⟨_, _, r1, r2, hd.ret kk (d := .int _) rfl hf⟩
  · exact .inr (.inl ⟨_, _, r1, r2, hf.1, hd.ret kk (d := .str _) rfl hf.2⟩)
  · obtain ⟨a, xs, e1, h1, q1⟩ := hd.lst r1
    obtain ⟨b, ys, e2, h2, q2⟩ := hd.lst r2
    exact .inr (.inr (.inl ⟨a, b, xs, ys, e1, e2, h1, h2, by rw [← q1.length, ← q2.length]; exact hf.1, hd.retL kk (q1.append q2) hf.2⟩))
  · obtain ⟨a, xs, e1, h1, q1⟩ := hd.tup r1
    obtain ⟨b, ys, e2, h2, q2⟩ := hd.tup r2
    refine .inr (.inr (.inr ⟨a, b, xs, ys, e1, e2, h1, h2, by rw [← q1.length, ← q2.length]; exact hf.1, fun e => ?_, fun _ e => ?_, fun _ _ => hd.retT kk (q1.append q2) hf.2⟩))
    · have l := q1.length
      rw [e] at l
      have z := List.length_eq_zero_iff.mp l
      have q := hf.2
      rw [z, List.nil_append] at q
      rw [← e2]
      exact hd.ret kk r2 q
    · have l := q2.length
      rw [e] at l
      have z := List.length_eq_zero_iff.mp l
      have q := hf.2
      rw [z, List.append_nil] at q
      rw [← e1]
      exact hd.ret kk r1 q
  · exact hf.elim⟩
/-- a * b: ints; a list times an int -/
def fMul : D → D → (T → Prop) → Prop := fun x y k => match x, y with
  | .int i, .int j => IntMulOk i j ∧ k (.fz (.int (i * j)))
  | .lst a, .int j => j < 2 ^ 63 ∧ -(2 ^ 63) ≤ j ∧ a.length * j.toNat ≤ sizeLine ∧ k (.ls (fzs (List.replicate j.toNat a).flatten))
  | _, _ => False
def rMulG : R2 := fun x y H Q => rI IntMulOk (fun i j => .int (i * j)) x y H Q ∨ rRep x y H Q
theorem op_mulI {X : Cx} : OpR X (binaryOp .Mult) (rI IntMulOk fun i j => .int (i * j)) := opI fun _ _ _ _ _ _ _ hc q => PyProof.Rows.mul_int q hc
theorem op_mulG {X : Cx} : OpR X (binaryOp .Mult) rMulG := op_mulI.or op_rep
theorem Reps.rep {G : Hp} {ds : List D} {xs : List V} (h : Reps K G ds xs) : ∀ n : Nat, Reps K G (List.replicate n ds).flatten (List.replicate n xs).flatten
  | 0 => rfl
  | n + 1 => by rw [List.replicate_succ, List.replicate_succ, List.flatten_cons, List.flatten_cons]; exact h.append (h.rep n)
theorem o2_mul : Op2 K rMulG fMul := ⟨fun x y k hf G F ρ σ H vx vy R hd r1 r2 kk => by
  unfold fMul at hf
  split at hf
  · exact .inl ⟨_, _, r1, r2, hf.1, hd.ret kk (d := .int _) rfl hf.2⟩
  · obtain ⟨a, xs, e1, h1, q1⟩ := hd.lst r1
    exact .inr ⟨a, _, xs, e1, r2, h1, hf.2.1, hf.1, by rw [← q1.length]; exact hf.2.2.1, hd.retL kk (q1.rep _) hf.2.2.2⟩
  · exact hf.elim⟩

/-! ### comparisons -/
abbrev fLt : D → D → (T → Prop) → Prop := fI0 fun i j => .bl (decide (i < j))
abbrev fLe : D → D → (T → Prop) → Prop := fI0 fun i j => .bl (decide (i ≤ j))
abbrev fGt : D → D → (T → Prop) → Prop := fI0 fun i j => .bl (decide (i > j))
abbrev fGe : D → D → (T → Prop) → Prop := fI0 fun i j => .bl (decide (i ≥ j))
mutual
def D.py : D → PyData
  | .non => .none
  | .bl b => .bool b
  | .int i => .int i
  | .str x => .str x
  | .lst ds => .list (Ds.py ds)
  | .tup ds => .tuple (Ds.py ds)
  | _ => .dict []
def Ds.py : List D → List PyData
  | [] => []
  | d :: ds => d.py :: Ds.py ds
end
mutual
def D.plain : D → Bool
  | .non => true
  | .bl b => true
  | .int i => true
  | .str x => true
  | .lst ds => Ds.plain ds
  | .tup ds => Ds.plain ds
  | _ => false
def Ds.plain : List D → Bool
  | [] => true
  | d :: ds => d.plain && Ds.plain ds
end
mutual
theorem D.dp {G H : Hp} (s : Sub G H) : ∀ {d : D} {v : V}, d.plain = true → Rep K G d v → Dp K H v d.py
  | .non, _, _, h => by cases (show _ = V.non from h); exact .non
  | .bl b, _, _, h => by cases (show _ = V.bl b from h); exact .bl b
  | .int i, _, _, h => by cases (show _ = V.int i from h); exact .int i
  | .str x, _, _, h => by cases (show _ = V.str x from h); exact .str x
  | .lst ds, _, p, h => by
    obtain ⟨a, xs, e, g, r⟩ := h
    subst e
    exact .lst (SqL.of (s _ _ g)) (Ds.dp s p r)
  | .tup ds, _, p, h => by
    obtain ⟨a, xs, e, g, r⟩ := h
    subst e
    exact .tup (SqT.sub s g) (Ds.dp s p r)
  | .ty _, _, p, _ => nomatch (show false = true from p)
  | .ref _, _, p, _ => nomatch (show false = true from p)
  | .sq _, _, p, _ => nomatch (show false = true from p)
  | .dk _ _, _, p, _ => nomatch (show false = true from p)
  | .dt _ _, _, p, _ => nomatch (show false = true from p)
  | .set _ _, _, p, _ => nomatch (show false = true from p)
  | .obj _ _ _, _, p, _ => nomatch (show false = true from p)
theorem Ds.dp {G H : Hp} (s : Sub G H) : ∀ {ds : List D} {xs : List V}, Ds.plain ds = true → Reps K G ds xs → DpAll K H xs (Ds.py ds)
  | [], _, _, h => by cases h; exact .nil
  | d :: ds, _, p, h => by
    obtain ⟨x, r, e, h1, h2⟩ := h
    subst e
    have p' : (d.plain && Ds.plain ds) = true := p
    rw [Bool.and_eq_true] at p'
    exact .cons (D.dp s p'.1 h1) (Ds.dp s p'.2 h2)
end
/-- two data that == compares as data -/
def D.cmp (x y : D) : Prop := x.plain = true ∧ y.plain = true ∧ SeqAt.shaped x.py = true ∧ SeqAt.shaped y.py = true
/-- a == b (n: not) -/
def fEq (n : Bool) : D → D → (T → Prop) → Prop := fun x y k => match x, y with
  | .int i, .int j => k (.fz (.bl (n != decide (i = j))))
  | .bl i, .bl j => k (.fz (.bl (n != decide (i = j))))
  | .str i, .str j => k (.fz (.bl (n != decide (i = j))))
  | .non, .int _ => k (.fz (.bl n))
  | .int _, .non => k (.fz (.bl n))
  | _, _ => D.cmp x y ∧ k (.fz (.bl (n != PyData.eqv x.py y.py)))
def rEqG (K : PySem.W.Frag) : R2 := fun x y H Q => rEq x y H Q ∨ rEqD K x y H Q
def rNeG (K : PySem.W.Frag) : R2 := fun x y H Q => rNe x y H Q ∨ rNeD K x y H Q
theorem op_eqG {X : Cx} (hu : X.A.units + 64 < cLine) : OpR X (compareOp .Eq) (rEqG X.K) := op_eq.or (op_eqD hu)
theorem op_neG {X : Cx} (hu : X.A.units + 64 < cLine) : OpR X (compareOp .NotEq) (rNeG X.K) := op_ne.or (op_neD hu)
theorem fb (b : Bool) : (false != b) = b := by cases b <;> rfl
theorem tb (b : Bool) : (true != b) = !b := by cases b <;> rfl
theorem o2_eq : Op2 K (rEqG K) (fEq false) := ⟨fun x y k hf G F ρ σ H vx vy R hd r1 r2 kk => by
  unfold fEq at hf
  simp only [fb] at hf
  split at hf
  · cases (show vx = V.int _ from r1); cases (show vy = V.int _ from r2)
    exact .inl ⟨rfl, by simpa using hd.ret kk (d := .bl _) rfl hf⟩
  · cases (show vx = V.bl _ from r1); cases (show vy = V.bl _ from r2)
    exact .inl ⟨rfl, by simpa using hd.ret kk (d := .bl _) rfl hf⟩
  · cases (show vx = V.str _ from r1); cases (show vy = V.str _ from r2)
    exact .inl ⟨rfl, by simpa using hd.ret kk (d := .bl _) rfl hf⟩
  · cases (show vx = V.non from r1); cases (show vy = V.int _ from r2)
    exact .inl ⟨rfl, by simpa using hd.ret kk (d := .bl _) rfl hf⟩
  · cases (show vx = V.int _ from r1); cases (show vy = V.non from r2)
    exact .inl ⟨rfl, by simpa using hd.ret kk (d := .bl _) rfl hf⟩
  · obtain ⟨⟨p1, p2, p3, p4⟩, q⟩ := hf
    exact .inr ⟨_, _, D.dp hd.sl p1 r1, D.dp hd.sl p2 r2, p3, p4, hd.ret kk (d := .bl _) rfl q⟩⟩
theorem o2_ne : Op2 K (rNeG K) (fEq true) := ⟨fun x y k hf G F ρ σ H vx vy R hd r1 r2 kk => by
  unfold fEq at hf
  simp only [tb] at hf
  split at hf
  · cases (show vx = V.int _ from r1); cases (show vy = V.int _ from r2)
    exact .inl ⟨rfl, by simpa using hd.ret kk (d := .bl _) rfl hf⟩
  · cases (show vx = V.bl _ from r1); cases (show vy = V.bl _ from r2)
    exact .inl ⟨rfl, by simpa using hd.ret kk (d := .bl _) rfl hf⟩
  · cases (show vx = V.str _ from r1); cases (show vy = V.str _ from r2)
    exact .inl ⟨rfl, by simpa using hd.ret kk (d := .bl _) rfl hf⟩
  · cases (show vx = V.non from r1); cases (show vy = V.int _ from r2)
    exact .inl ⟨rfl, by simpa using hd.ret kk (d := .bl _) rfl hf⟩
  · cases (show vx = V.int _ from r1); cases (show vy = V.non from r2)
    exact .inl ⟨rfl, by simpa using hd.ret kk (d := .bl _) rfl hf⟩
  · obtain ⟨⟨p1, p2, p3, p4⟩, q⟩ := hf
    exact .inr ⟨_, _, D.dp hd.sl p1 r1, D.dp hd.sl p2 r2, p3, p4, hd.ret kk (d := .bl _) rfl q⟩⟩

/-! ### sequences: length, an item, copies -/
theorem RepT.ls {G O : Hp} {ts : List T} {v : V} (h : RepT K G (.ls ts) v O) : ∃ a xs O', v = .ref a ∧ O a = some (.lst xs) ∧ O' a = none ∧ Sub O' O ∧ RepTs K G ts xs O' := h
theorem RepTs.get {G : Hp} : ∀ {ts : List T} {xs : List V} {O : Hp} {i : Nat} {d : D}, RepTs K G ts xs O → ts[i]? = some (.fz d) → ∃ x, xs[i]? = some x ∧ Rep K G d x
  | [], _, _, _, _, _, e => by simp at e
  | t :: ts, _, _, 0, _, h, e => by
    obtain ⟨x, r, A, B, e2, _, _, _, h1, h2⟩ := h; subst e2
    simp at e; subst e
    exact ⟨x, rfl, h1⟩
  | t :: ts, _, _, i + 1, _, h, e => by
    obtain ⟨x, r, A, B, e2, _, _, _, h1, h2⟩ := h; subst e2
    obtain ⟨y, q1, q2⟩ := RepTs.get (i := i) h2 (by simpa using e)
    exact ⟨y, by simpa using q1, q2⟩
theorem atI_len {α β : Type} {xs : List α} {ys : List β} {i : Int} {x : α} (h : atI xs i = some x) (hl : xs.length = ys.length) : ∃ j, j < ys.length ∧ xs[j]? = some x ∧ ∀ y, ys[j]? = some y → atI ys i = some y := by
  unfold atI at h ⊢
  cases e : ixN xs.length i with
  | none => rw [e] at h; cases h
  | some j =>
    rw [e] at h
    have h : xs[j]? = some x := h
    refine ⟨j, by rw [← hl]; exact (List.getElem?_eq_some_iff.mp h).1, h, fun y hy => ?_⟩
    rw [← hl, e]
    exact hy
def fLen : T → (T → Prop) → Prop := fun τ k => match τ with
  | .fz (.lst ds) => k (.fz (.int ds.length))
  | .fz (.tup ds) => k (.fz (.int ds.length))
  | .fz (.sq ds) => k (.fz (.int ds.length))
  | .ls ts => k (.fz (.int ts.length))
  | .fz (.str z) => z.length ≤ sizeLine ∧ k (.fz (.int z.length))
  | _ => False
def rLen (K : PySem.W.Frag) : List V → Hp → VK → Prop := fun xs H Q => ∃ x n, xs = [x] ∧ LenV K x H n ∧ Q (.int n) H
/-- a reading of one value as a reading of arguments -/
def r1 (r : List V → Hp → VK → Prop) : V → Hp → VK → Prop := fun x H Q => r [x] H Q
theorem b1_len : B1 K (r1 (rLen K)) fLen := ⟨fun τ k hf G F ρ σ H v Ov R rt so hd kk => by
  unfold fLen at hf
  split at hf
  · obtain ⟨a, xs, e, g, r⟩ := hd.lst rt
    subst e
    exact ⟨_, xs.length, rfl, .inl ⟨xs, SqL.of g, rfl⟩, hd.ret kk (d := .int _) (by rw [← r.length]; rfl) hf⟩
  · obtain ⟨a, xs, e, g, r⟩ := hd.tup rt
    subst e
    exact ⟨_, xs.length, rfl, .inr ⟨xs, g, rfl⟩, hd.ret kk (d := .int _) (by rw [← r.length]; rfl) hf⟩
  · obtain ⟨a, xs, e, g, r⟩ := rt
    subst e
    exact ⟨_, xs.length, rfl, .inl ⟨xs, SqL.sub hd.sl g, rfl⟩, hd.ret kk (d := .int _) (by rw [← r.length]; rfl) hf⟩
  · obtain ⟨a, xs, O', e, g, n, z, r⟩ := rt.ls
    subst e
    exact ⟨_, xs.length, rfl, .inl ⟨xs, SqL.of (so _ _ g), rfl⟩, hd.ret kk (d := .int _) (by rw [← r.length]; rfl) hf⟩
  · cases (show v = V.str _ from rt)
    exact ⟨_, _, rfl, ⟨hf.1, rfl⟩, hd.ret kk (d := .int _) rfl hf.2⟩
  · exact hf.elim⟩
/-- x[i] -/
def fIx : T → D → (T → Prop) → Prop := fun τ y k => match τ, y with
  | .fz (.lst ds), .int i => ExG (fun d => atI ds i = some d) fun d => k (.fz d)
  | .fz (.tup ds), .int i => ExG (fun d => atI ds i = some d) fun d => k (.fz d)
  | .ls ts, .int i => ExG (fun d => atI ts i = some (.fz d)) fun d => k (.fz d)
  | .fz (.str z), .int i => z.length ≤ sizeLine ∧ ExG (fun c => atI z.cps.toList i = some c) fun c => k (.fz (.str ⟨#[c]⟩))
  | _, _ => False
theorem b2_ix : B2 K (rIx K) fIx := ⟨fun τ y k hf G F ρ σ H v vy Ov R rt so ry hd kk => by
  unfold fIx at hf
  split at hf
  · obtain ⟨d, e, q⟩ := hf
    obtain ⟨a, xs, e1, g, r⟩ := hd.lst rt
    obtain ⟨j, hj, ej, f⟩ := atI_len e r.length
    obtain ⟨x, hx, rx⟩ := r.get ej
    exact .inl ⟨a, xs, _, x, e1, ry, SqL.of g, f x hx, hd.ret kk rx q⟩
  · obtain ⟨d, e, q⟩ := hf
    obtain ⟨a, xs, e1, g, r⟩ := hd.tup rt
    obtain ⟨j, hj, ej, f⟩ := atI_len e r.length
    obtain ⟨x, hx, rx⟩ := r.get ej
    exact .inr (.inl ⟨a, xs, _, x, e1, ry, g, f x hx, hd.ret kk rx q⟩)
  · obtain ⟨d, e, q⟩ := hf
    obtain ⟨a, xs, O', e1, g, n, z, r⟩ := rt.ls
    obtain ⟨j, hj, ej, f⟩ := atI_len e r.length
    obtain ⟨x, hx, rx⟩ := r.get ej
    exact .inl ⟨a, xs, _, x, e1, ry, SqL.of (so _ _ g), f x hx, hd.ret kk rx q⟩
  · obtain ⟨h1, c, e, q⟩ := hf
    exact .inr (.inr ⟨_, _, c, rt, ry, h1, e, hd.ret kk (d := .str _) rfl q⟩)
  · exact hf.elim⟩
/-- list(x) -/
def fList : T → (T → Prop) → Prop := fun τ k => match τ with
  | .fz (.lst ds) => k (.ls (fzs ds))
  | .fz (.tup ds) => k (.ls (fzs ds))
  | .ls ts => ExG (fun ds => ts = fzs ds) fun ds => k (.ls (fzs ds))
  | _ => False
def rListOf (K : PySem.W.Frag) : List V → Hp → VK → Prop := fun xs H Q => ∃ p ys, xs = [.ref p] ∧ (SqL K H p ys ∨ SqT K H p ys) ∧ ∀ l, H l = none → Q (.ref l) (upd H l (.lst ys))
theorem b1_list : B1 K (r1 (rListOf K)) fList := ⟨fun τ k hf G F ρ σ H v Ov R rt so hd kk => by
  unfold fList at hf
  split at hf
  · obtain ⟨a, xs, e, g, r⟩ := hd.lst rt
    subst e
    exact ⟨a, xs, rfl, .inl (SqL.of g), hd.retL kk r hf⟩
  · obtain ⟨a, xs, e, g, r⟩ := hd.tup rt
    subst e
    exact ⟨a, xs, rfl, .inr g, hd.retL kk r hf⟩
  · obtain ⟨ds, e0, hf⟩ := hf
    subst e0
    obtain ⟨a, xs, O', e, g, n, z, r⟩ := rt.ls
    subst e
    exact ⟨a, xs, rfl, .inl (SqL.of (so _ _ g)), hd.retL kk (rep_fzs r) hf⟩
  · exact hf.elim⟩
/-- tuple(x) -/
def fTuple : T → (T → Prop) → Prop := fun τ k => match τ with
  | .fz (.lst ds) => k (.fz (.tup ds))
  | .fz (.tup ds) => k (.fz (.tup ds))
  | .ls ts => ExG (fun ds => ts = fzs ds) fun ds => k (.fz (.tup ds))
  | _ => False
def rTupleOf (K : PySem.W.Frag) : List V → Hp → VK → Prop := fun xs H Q => ∃ p ys, xs = [.ref p] ∧ ((SqL K H p ys ∧ ∀ l, H l = none → Q (.ref l) (upd H l (.tup ys))) ∨ (SqT K H p ys ∧ Q (.ref p) H))
theorem b1_tuple : B1 K (r1 (rTupleOf K)) fTuple := ⟨fun τ k hf G F ρ σ H v Ov R rt so hd kk => by
  unfold fTuple at hf
  split at hf
  · obtain ⟨a, xs, e, g, r⟩ := hd.lst rt
    subst e
    exact ⟨a, xs, rfl, .inl ⟨SqL.of g, hd.retT kk r hf⟩⟩
  · obtain ⟨a, xs, e, g, r⟩ := hd.tup rt
    have rt' := rt
    subst e
    exact ⟨a, xs, rfl, .inr ⟨g, hd.ret kk rt' hf⟩⟩
  · obtain ⟨ds, e0, hf⟩ := hf
    subst e0
    obtain ⟨a, xs, O', e, g, n, z, r⟩ := rt.ls
    subst e
    exact ⟨a, xs, rfl, .inl ⟨SqL.of (so _ _ g), hd.retT kk (rep_fzs r) hf⟩⟩
  · exact hf.elim⟩
/-- int(x) of an int, a bool -/
def fInt : T → (T → Prop) → Prop := fun τ k => match τ with
  | .fz (.int i) => k (.fz (.int i))
  | .fz (.bl b) => k (.fz (.int (if b then 1 else 0)))
  | _ => False
def rInt1 : List V → Hp → VK → Prop := fun xs H Q => (∃ i, xs = [.int i] ∧ Q (.int i) H) ∨ ∃ k, xs = [.bl k] ∧ Q (.int (if k then 1 else 0)) H
theorem b1_int : B1 K (r1 rInt1) fInt := ⟨fun τ k hf G F ρ σ H v Ov R rt so hd kk => by
  unfold fInt at hf
  split at hf
  · cases (show v = V.int _ from rt)
    exact .inl ⟨_, rfl, hd.ret kk (d := .int _) rfl hf⟩
  · cases (show v = V.bl _ from rt)
    exact .inr ⟨_, rfl, hd.ret kk (d := .int _) rfl hf⟩
  · exact hf.elim⟩
end
end Dl

namespace Dl
open PySem L2

/-! ### trees of lists, changed -/
section
variable {K : PySem.W.Frag} {G F H : Hp} {ρ : Env} {σ : St} {v : V}
theorem RepTs.appendF {ds : List D} {ys : List V} (g : Reps K G ds ys) : ∀ {ts : List T} {xs : List V} {O : Hp}, RepTs K G ts xs O → RepTs K G (ts ++ fzs ds) (xs ++ ys) O
  | [], _, _, h => by cases h; exact fzs_rep g
  | _ :: _, _, _, h => by obtain ⟨x, r, A, B, e, z1, z2, dj, h1, h2⟩ := h; subst e; exact ⟨x, _, A, B, rfl, z1, z2, dj, h1, RepTs.appendF g h2⟩
theorem RepTs.eraseIdx : ∀ {ts : List T} {xs : List V} {O : Hp} (i : Nat), RepTs K G ts xs O → RepTs K G (ts.eraseIdx i) (xs.eraseIdx i) O
  | [], _, _, _, h => by cases h; rfl
  | _ :: _, _, _, 0, h => by obtain ⟨x, r, A, B, e, z1, z2, dj, h1, h2⟩ := h; subst e; exact h2.mono Sub.refl z2
  | _ :: _, _, _, i + 1, h => by obtain ⟨x, r, A, B, e, z1, z2, dj, h1, h2⟩ := h; subst e; exact ⟨x, _, A, B, rfl, z1, z2, dj, h1, RepTs.eraseIdx i h2⟩
theorem RepTs.setF {d : D} {y : V} (g : Rep K G d y) : ∀ {ts : List T} {xs : List V} {O : Hp} (i : Nat), RepTs K G ts xs O → RepTs K G (ts.set i (.fz d)) (xs.set i y) O
  | [], _, _, _, h => by cases h; rfl
  | _ :: _, _, _, 0, h => by obtain ⟨x, r, A, B, e, z1, z2, dj, h1, h2⟩ := h; subst e; exact ⟨y, _, A, B, rfl, z1, z2, dj, g, h2⟩
  | _ :: _, _, _, i + 1, h => by obtain ⟨x, r, A, B, e, z1, z2, dj, h1, h2⟩ := h; subst e; exact ⟨x, _, A, B, rfl, z1, z2, dj, h1, RepTs.setF g i h2⟩
theorem RepTs.insF {d : D} {y : V} (g : Rep K G d y) : ∀ {ts : List T} {xs : List V} {O : Hp} (i : Nat), RepTs K G ts xs O → RepTs K G (ts.take i ++ [.fz d] ++ ts.drop i) (xs.take i ++ [y] ++ xs.drop i) O
  | ts, xs, O, 0, h => by
    show RepTs K G (.fz d :: ts) (y :: xs) O
    exact ⟨y, xs, emp, O, rfl, emp_sub, Sub.refl, emp_dj, g, h⟩
  | [], _, _, _ + 1, h => by cases h; exact ⟨y, [], emp, emp, rfl, emp_sub, emp_sub, emp_dj, g, rfl⟩
  | _ :: _, _, _, i + 1, h => by
    obtain ⟨x, r, A, B, e, z1, z2, dj, h1, h2⟩ := h; subst e
    exact ⟨x, _, A, B, rfl, z1, z2, dj, h1, RepTs.insF g i h2⟩
theorem dropLast_eraseIdx {α : Type} (l : List α) : l.dropLast = l.eraseIdx (l.length - 1) := by
  induction l with
  | nil => rfl
  | cons a r ih =>
    cases r with
    | nil => rfl
    | cons b r =>
      rw [List.dropLast_cons_cons, ih]
      rfl
/-- an owned list is written -/
theorem HdT.write {ts : List T} (h : HdT K G F (.ls ts) v ρ σ H) : ∃ a xs, v = .ref a ∧ H a = some (.lst xs) ∧ ts.length = xs.length ∧ (∀ (i : Nat) (d : D), ts[i]? = some (.fz d) → ∃ x, xs[i]? = some x ∧ Rep K G d x) ∧
    ∀ ts' xs', (∀ O', RepTs K G ts xs O' → RepTs K G ts' xs' O') → HdT K G F (.ls ts') v ρ σ (upd H a (.lst xs')) := by
  obtain ⟨Ov, O, p, d, ⟨a, xs, O', e, g, n, z, r⟩, h2⟩ := h
  subst e
  refine ⟨a, xs, rfl, p.o _ _ (jn_l _ _ g), r.length, fun i d e => r.get e, fun ts' xs' f => ?_⟩
  have on : O a = none := by rcases d a with q | q; (rw [g] at q; cases q); exact q
  have e : upd (jn Ov O) a (.lst xs') = jn (upd Ov a (.lst xs')) O := by
    funext b
    by_cases hb : b = a
    · subst hb; unfold jn; rw [upd_same, upd_same]
    · unfold jn; rw [upd_ne hb, upd_ne hb]
  have q := p.write (u := .lst xs') (jn_l _ _ g)
  rw [e] at q
  exact ⟨_, O, q, dj_upd d on, ⟨a, xs', O', rfl, upd_same, n, sub_upd z n, f O' r⟩, h2⟩
theorem tyV_list {a : Addr} {xs : List V} (h : H a = some (.lst xs)) : tyV K "list" (.ref a) H := .inl ⟨rfl, xs, SqL.of h⟩
end

/-! ### methods that change an owned list in a slot -/
def isLs : T → Bool
  | .ls _ => true
  | _ => false
structure MU (K : PySem.W.Frag) (r : V → List V → Hp → VK → Prop) (f : List T → List D → (D → List T → Prop) → Prop) : Prop where
  run : ∀ ts ds k, f ts ds k → ∀ G F ρ σ H v vs R, HdT K G F (.ls ts) v ρ σ H → Reps K G ds vs → (∀ H' d vr ts', HdT K G F (.ls ts') v ρ σ H' → Rep K G d vr → k d ts' → R vr H') → r v vs H R
def ArgsD : List Arg → Option (List D)
  | [] => some []
  | .d d :: r => match ArgsD r with
    | some ds => some (d :: ds)
    | none => none
  | .io _ :: _ => none
def bMut (f : List T → List D → (D → List T → Prop) → Prop) (i : Nat) (as : TDA) (ρ : Dl.Env) (Q : D → Dl.Env → Prop) (QX : XQ) : Prop := match slot ρ i with
  | some (.ls _) => as ρ (fun args ρ1 => match slot ρ1 i, ArgsD args with
    | some (.ls ts), some ds => f ts ds fun d ts' => Q d (ρ1.set i (some (.ls ts')))
    | _, _ => False) QX
  | _ => False
section
variable {K : PySem.W.Frag} {E : EK} {te : TE} {ta : TA} {i : Nat}
theorem ArgsD_rep {G : Hp} {σ : St} : ∀ {as : List Arg} {ds : List D} {vs : List V}, ArgsD as = some ds → Paired (RepA K G σ) as vs → Reps K G ds vs
  | [], _, _, e, .nil => by cases e; rfl
  | .d d :: r, _, _, e, .cons h t => by
    unfold ArgsD at e
    split at e
    · rename_i ds q
      cases e
      exact .cons h (ArgsD_rep q t)
    · cases e
  | .io _ :: _, _, _, e, _ => nomatch e
theorem ld_mut {r : V → List V → Hp → VK → Prop} {f : List T → List D → (D → List T → Prop) → Prop} {as : TDA} (hf : MU K r f) (ha : LA K E ta as) : LD K E (tBM K "list" r (tVar i) ta) (bMut f i as) := ⟨fun ρ Q QX ht G F σ H R hd k kx => by
  unfold bMut at ht
  cases e0 : slot ρ i with
  | none => rw [e0] at ht; exact ht.elim
  | some τ0 =>
    rw [e0] at ht
    cases τ0 with
    | ls ts0 =>
      obtain ⟨v, q, h0⟩ := hd.focus e0
      obtain ⟨a, xs, ev, ha0, _⟩ := h0.write
      refine ⟨v, q, by rw [ev]; exact tyV_list ha0, ?_⟩
      refine ha.run ρ _ QX ht G F σ H _ hd (fun G1 H1 args ρ1 vs s1 hd1 ra q1 => ?_) kx
      cases e1 : slot ρ1 i with
      | none => simp only [e1] at q1
      | some τ =>
        cases τ with
        | ls ts =>
          cases e2 : ArgsD args with
          | none => simp only [e1, e2] at q1
          | some ds =>
            simp only [e1, e2] at q1
            obtain ⟨v', q', h1⟩ := hd1.focus e1
            rw [q] at q'; cases q'
            exact hf.run ts ds _ q1 G1 F _ σ H1 v vs R h1 (ArgsD_rep e2 ra) fun H2 d vr ts' h2 rd qd => k G1 H2 d _ vr s1 (h2.back (slot_lt e1) q) rd qd
        | _ => simp only [e1] at q1
    | _ => exact ht.elim⟩
theorem ld_mut0 {r : V → List V → Hp → VK → Prop} {f : List T → List D → (D → List T → Prop) → Prop} (hf : MU K r f) : LD K E (tBM0 K "list" r (tVar i)) (bMut f i fun ρ Q _ => Q [] ρ) := ⟨fun ρ Q QX ht G F σ H R hd k kx => by
  unfold bMut at ht
  cases e0 : slot ρ i with
  | none => rw [e0] at ht; exact ht.elim
  | some τ0 =>
    rw [e0] at ht
    cases τ0 with
    | ls ts =>
      simp only [e0, ArgsD] at ht
      obtain ⟨v, q, h0⟩ := hd.focus e0
      obtain ⟨a, xs, ev, ha0, _⟩ := h0.write
      refine ⟨v, q, by rw [ev]; exact tyV_list ha0, ?_⟩
      exact hf.run ts [] _ ht G F _ σ H v [] R h0 rfl fun H2 d vr ts' h2 rd qd => k G H2 d _ vr Sub.refl (h2.back (slot_lt e0) q) rd qd
    | _ => exact ht.elim⟩
def fAppend : List T → List D → (D → List T → Prop) → Prop := fun ts ds k => match ds with
  | [d] => ts.length < sizeLine ∧ k .non (ts ++ fzs [d])
  | _ => False
theorem mu_append : MU K rAppend fAppend := ⟨fun ts ds k hf G F ρ σ H v vs R h r kk => by
  unfold fAppend at hf
  split at hf
  · obtain ⟨a, xs, ev, g, hl, _, wr⟩ := h.write
    obtain ⟨x, r', e, rx, e2⟩ := r
    cases e2
    subst e ev
    exact ⟨a, xs, x, rfl, rfl, g, by rw [← hl]; exact hf.1, kk _ .non _ _ (wr _ _ fun O' q => q.appendF (Reps.one rx)) rfl hf.2⟩
  · exact hf.elim⟩
def fExtend : List T → List D → (D → List T → Prop) → Prop := fun ts ds k => match ds with
  | [.lst es] => ts.length + es.length ≤ sizeLine ∧ k .non (ts ++ fzs es)
  | _ => False
theorem mu_extend : MU K rExtend fExtend := ⟨fun ts ds k hf G F ρ σ H v vs R h r kk => by
  unfold fExtend at hf
  split at hf
  · obtain ⟨a, xs, ev, g, hl, _, wr⟩ := h.write
    obtain ⟨x, r', e, ⟨b, ys, eb, gb, rb⟩, e2⟩ := r
    cases e2
    subst e ev eb
    exact ⟨a, b, xs, ys, rfl, rfl, g, h.ov _ _ gb, by rw [← hl, ← rb.length]; exact hf.1, kk _ .non _ _ (wr _ _ fun O' q => q.appendF rb) rfl hf.2⟩
  · exact hf.elim⟩
def fPop : List T → List D → (D → List T → Prop) → Prop := fun ts ds k => match ds with
  | [] => ExG (fun d => ts[ts.length - 1]? = some (.fz d)) fun d => k d ts.dropLast
  | _ => False
theorem mu_pop : MU K rPop fPop := ⟨fun ts ds k hf G F ρ σ H v vs R h r kk => by
  unfold fPop at hf
  split at hf
  · obtain ⟨d, e, q⟩ := hf
    obtain ⟨a, xs, ev, g, hl, get, wr⟩ := h.write
    obtain ⟨x, ex, rx⟩ := get _ _ e
    cases r
    subst ev
    refine ⟨a, xs, x, rfl, rfl, g, by rw [← hl]; exact ex, kk _ d x _ (wr _ _ fun O' q => ?_) rx q⟩
    rw [dropLast_eraseIdx, dropLast_eraseIdx, ← hl]
    exact q.eraseIdx _
  · exact hf.elim⟩
def fPopAt : List T → List D → (D → List T → Prop) → Prop := fun ts ds k => match ds with
  | [.int i] => -(2 ^ 63) ≤ i ∧ i < 2 ^ 63 ∧ ExG (fun j => seqIndex? i ts.length = some j) fun j => ExG (fun d => ts[j]? = some (.fz d)) fun d => k d (ts.eraseIdx j)
  | _ => False
theorem mu_popAt : MU K rPopAt fPopAt := ⟨fun ts ds k hf G F ρ σ H v vs R h r kk => by
  unfold fPopAt at hf
  split at hf
  · obtain ⟨h0, h1, j, h2, d, e, q⟩ := hf
    obtain ⟨a, xs, ev, g, hl, get, wr⟩ := h.write
    obtain ⟨x, ex, rx⟩ := get _ _ e
    obtain ⟨y, r', e, ry, e2⟩ := r
    cases e2
    cases (show y = V.int _ from ry)
    subst e ev
    exact ⟨a, xs, _, j, x, rfl, rfl, g, h0, h1, by rw [← hl]; exact h2, ex, kk _ d x _ (wr _ _ fun O' q => q.eraseIdx _) rx q⟩
  · exact hf.elim⟩
def fInsert : List T → List D → (D → List T → Prop) → Prop := fun ts ds k => match ds with
  | [.int i, d] => ts.length < sizeLine ∧ 0 ≤ i ∧ i < 2 ^ 63 ∧ k .non (ts.take i.toNat ++ fzs [d] ++ ts.drop i.toNat)
  | _ => False
def rInsert : V → List V → Hp → VK → Prop := fun x vs H Q => ∃ (l : Addr) (xs : List V) (i : Int) (y : V), x = .ref l ∧ vs = [.int i, y] ∧ H l = some (.lst xs) ∧ xs.length < sizeLine ∧ 0 ≤ i ∧ i < 2 ^ 63 ∧
  Q .non (upd H l (.lst (xs.take i.toNat ++ [y] ++ xs.drop i.toNat)))
theorem mu_insert : MU K rInsert fInsert := ⟨fun ts ds k hf G F ρ σ H v vs R h r kk => by
  unfold fInsert at hf
  split at hf
  · obtain ⟨h0, h1, h2, q⟩ := hf
    obtain ⟨a, xs, ev, g, hl, get, wr⟩ := h.write
    obtain ⟨y, r', e, ry, z, r2, e3, rz, e2⟩ := r
    cases e2
    cases (show y = V.int _ from ry)
    subst e e3 ev
    exact ⟨a, xs, _, z, rfl, rfl, g, by rw [← hl]; exact h0, h1, h2, kk _ .non _ _ (wr _ _ fun O' q => q.insF rz _) rfl q⟩
  · exact hf.elim⟩
end

/-! ### argument lists -/
def daNil (ρ : Dl.Env) (Q : List Arg → Dl.Env → Prop) (QX : XQ) : Prop := Q [] ρ
def daCons (a : TDD) (r : TDA) (ρ : Dl.Env) (Q : List Arg → Dl.Env → Prop) (QX : XQ) : Prop := a ρ (fun d ρ1 => r ρ1 (fun as ρ2 => Q (.d d :: as) ρ2) QX) QX
/-- a slot lent -/
def daIo (i : Nat) (r : TDA) (ρ : Dl.Env) (Q : List Arg → Dl.Env → Prop) (QX : XQ) : Prop := match slot ρ i with
  | some _ => r ρ (fun as ρ2 => Q (.io i :: as) ρ2) QX
  | none => False
section
variable {K : PySem.W.Frag} {E : EK} {te : TE} {ta : TA} {i : Nat}
theorem RepA.mono {G G' : Hp} {σ : St} (s : Sub G G') : ∀ {a : Arg} {v : V}, RepA K G σ a v → RepA K G' σ a v
  | .d _, _, h => Rep.mono s h
  | .io _, _, h => h
theorem RepAs.mono {G G' : Hp} {σ : St} (s : Sub G G') : ∀ {as : List Arg} {vs : List V}, Paired (RepA K G σ) as vs → Paired (RepA K G' σ) as vs
  | _, _, .nil => .nil
  | _, _, .cons h t => .cons (h.mono s) (RepAs.mono s t)
theorem la_nil : LA K E tNil daNil := ⟨fun ρ Q QX ht G F σ H R hd k kx => k G H [] ρ [] Sub.refl hd .nil ht⟩
theorem la_cons {a : TDD} {r : TDA} (ha : LD K E te a) (hr : LA K E ta r) : LA K E (tCons te ta) (daCons a r) := ⟨fun ρ Q QX ht G F σ H R hd k kx =>
  ha.run ρ _ QX ht G F σ H _ hd (fun G1 H1 d ρ1 v s1 hd1 r1 q1 => hr.run ρ1 _ QX q1 G1 F σ H1 _ hd1 (fun G2 H2 as ρ2 vs s2 hd2 r2 q2 =>
    k G2 H2 _ ρ2 _ (s1.trans s2) hd2 (.cons (show RepA K G2 σ (.d d) v from r1.mono s2) r2) q2) (kx.mono s1)) kx⟩
theorem la_io {r : TDA} (hr : LA K E ta r) : LA K E (tCons (tVar i) ta) (daIo i r) := ⟨fun ρ Q QX ht G F σ H R hd k kx => by
  unfold daIo at ht
  cases e0 : slot ρ i with
  | none => rw [e0] at ht; exact ht.elim
  | some τ0 =>
    rw [e0] at ht
    obtain ⟨v, q, h0⟩ := hd.focus e0
    exact ⟨v, q, hr.run ρ _ QX ht G F σ H _ hd (fun G2 H2 as ρ2 vs s2 hd2 r2 q2 => k G2 H2 _ ρ2 _ s2 hd2 (.cons (show RepA K G2 σ (.io i) v from q) r2) q2) kx⟩⟩
end

/-! ### a built-in's call: one argument, read; or data alone -/
/-- of one argument, perhaps a slot's -/
def bC1 (f : T → (T → Prop) → Prop) (a : TDA) (ρ : Dl.Env) (Q : T → Dl.Env → Prop) (QX : XQ) : Prop := a ρ (fun as ρ1 => match as with
  | [.d d] => f (.fz d) fun τ => Q τ ρ1
  | [.io i] => match slot ρ1 i with
    | some τ => f τ fun τ' => Q τ' ρ1
    | none => False
  | _ => False) QX
/-- of data -/
def bCN (f : List D → (T → Prop) → Prop) (a : TDA) (ρ : Dl.Env) (Q : T → Dl.Env → Prop) (QX : XQ) : Prop := a ρ (fun as ρ1 => match ArgsD as with
  | some ds => f ds fun τ => Q τ ρ1
  | none => False) QX
structure BN (K : PySem.W.Frag) (r : List V → Hp → VK → Prop) (f : List D → (T → Prop) → Prop) : Prop where
  run : ∀ ds k, f ds k → ∀ G F ρ σ H vs R, Hd K G F ρ σ H → Reps K G ds vs → (∀ G' H' τ v, Sub G G' → HdT K G' F τ v ρ σ H' → k τ → R v H') → r vs H R
section
variable {K : PySem.W.Frag} {E : EK} {ta : TA}
theorem le_c1 {r : List V → Hp → VK → Prop} {f : T → (T → Prop) → Prop} {a : TDA} (hf : B1 K (r1 r) f) (ha : LA K E ta a) : LE K E (tCB r ta) (bC1 f a) := ⟨fun ρ Q QX ht G F σ H R hd k kx =>
  ha.run ρ _ QX ht G F σ H _ hd (fun G1 H1 as ρ1 vs s1 hd1 ra q1 => by
    split at q1
    · cases ra with
      | cons rd t =>
        cases t
        exact hf.run _ _ q1 G1 F ρ1 σ H1 _ emp R rd emp_sub hd1 fun G2 H2 τ v s2 h2 q2 => k G2 H2 τ ρ1 v (s1.trans s2) h2 q2
    · rename_i i
      cases e : slot ρ1 i with
      | none => rw [e] at q1; exact q1.elim
      | some τ =>
        rw [e] at q1
        cases ra with
        | cons rd t =>
          cases t
          obtain ⟨v, Ov, q, rr, d1, so, h2⟩ := hd1.lend e
          have ev := Option.some.inj (Option.some.inj (q.symm.trans rd))
          rw [← ev]
          refine hf.run τ _ q1 G1 (jn Ov F) _ σ H1 v Ov R rr so h2 fun G2 H2 τ' v' s2 h3 q2 => k G2 H2 τ' ρ1 v' (s1.trans s2) ?_ q2
          have := h3.backs rr s2 d1 (slot_lt e) q
          rwa [set_slot e] at this
    · exact q1.elim) kx⟩
theorem le_cN {r : List V → Hp → VK → Prop} {f : List D → (T → Prop) → Prop} {a : TDA} (hf : BN K r f) (ha : LA K E ta a) : LE K E (tCB r ta) (bCN f a) := ⟨fun ρ Q QX ht G F σ H R hd k kx =>
  ha.run ρ _ QX ht G F σ H _ hd (fun G1 H1 as ρ1 vs s1 hd1 ra q1 => by
    cases e : ArgsD as with
    | none => rw [e] at q1; exact q1.elim
    | some ds =>
      rw [e] at q1
      exact hf.run ds _ q1 G1 F ρ1 σ H1 vs R hd1 (ArgsD_rep e ra) fun G2 H2 τ v s2 h2 q2 => k G2 H2 τ ρ1 v (s1.trans s2) h2 q2) kx⟩
end
end Dl

namespace Dl
open PySem L2

/-! ### tests -/
/-- the truth of data -/
def fTru : T → (Bool → Prop) → Prop := fun τ k => match τ with
  | .fz .non => k false
  | .fz (.bl b) => k b
  | .fz (.int i) => k (i != 0)
  | .fz (.str z) => z.length ≤ sizeLine ∧ k ((z.length : Int) != 0)
  | .fz (.lst ds) => k !ds.isEmpty
  | .fz (.tup ds) => k !ds.isEmpty
  | .fz (.dk ks ds) => k !ks.isEmpty
  | .ls ts => k !ts.isEmpty
  | .dk ks ts => k !ks.isEmpty
  | _ => False
abbrev tTru (K : PySem.W.Frag) (ta : TE) : TT := fun σ H Q => ta σ H fun x H' => ∃ k, TruV K x H' k ∧ Q k H'
def dTru (a : TDE) (ρ : Dl.Env) (Q : Bool → Dl.Env → Prop) (QX : XQ) : Prop := a ρ (fun τ ρ1 => fTru τ fun b => Q b ρ1) QX
def dTruV (i : Nat) (ρ : Dl.Env) (Q : Bool → Dl.Env → Prop) (QX : XQ) : Prop := match slot ρ i with
  | some τ => fTru τ fun b => Q b ρ
  | none => False
/-- a bool -/
def dTB (a : TDE) (ρ : Dl.Env) (Q : Bool → Dl.Env → Prop) (QX : XQ) : Prop := a ρ (fun τ ρ1 => match τ with
  | .fz (.bl b) => Q b ρ1
  | _ => False) QX
def dAnd (a b : TDT) (ρ : Dl.Env) (Q : Bool → Dl.Env → Prop) (QX : XQ) : Prop := a ρ (fun c ρ1 => IfG c (b ρ1 Q QX) (Q false ρ1)) QX
def dOr (a b : TDT) (ρ : Dl.Env) (Q : Bool → Dl.Env → Prop) (QX : XQ) : Prop := a ρ (fun c ρ1 => IfG c (Q true ρ1) (b ρ1 Q QX)) QX
def dNot (a : TDT) (ρ : Dl.Env) (Q : Bool → Dl.Env → Prop) (QX : XQ) : Prop := a ρ (fun c ρ1 => Q (!c) ρ1) QX
section
variable {K : PySem.W.Frag} {E : EK} {te ta tb : TE} {tt tu : TT} {i : Nat}
theorem tru_sound {G F H : Hp} {ρ : Env} {σ : St} {τ : T} {v : V} {Ov : Hp} {k : Bool → Prop} (hf : fTru τ k) (rt : RepT K G τ v Ov) (so : Sub Ov H) (sg : Sub G H) : ∃ b, TruV K v H b ∧ k b := by
  have e0 : ∀ {α β : Type} {l : List α} {m : List β}, l.length = m.length → (!l.isEmpty) = !m.isEmpty := fun {α β l m} h => by
    cases l <;> cases m <;> simp_all
  unfold fTru at hf
  split at hf
  · cases (show v = V.non from rt); exact ⟨_, rfl, hf⟩
  · cases (show v = V.bl _ from rt); exact ⟨_, rfl, hf⟩
  · cases (show v = V.int _ from rt); exact ⟨_, rfl, hf⟩
  · cases (show v = V.str _ from rt); exact ⟨_, ⟨hf.1, rfl⟩, hf.2⟩
  · obtain ⟨a, xs, e, g, r⟩ := rt
    subst e
    exact ⟨_, .inl ⟨xs, SqL.of (sg _ _ g), rfl⟩, by rw [← e0 r.length]; exact hf⟩
  · obtain ⟨a, xs, e, g, r⟩ := rt
    subst e
    exact ⟨_, .inr (.inl ⟨xs, SqT.sub sg g, rfl⟩), by rw [← e0 r.length]; exact hf⟩
  · obtain ⟨a, xs, e, g, l, r⟩ := rt
    subst e
    refine ⟨_, .inr (.inr ⟨_, sg _ _ g, rfl⟩), ?_⟩
    rw [← e0 (l := (_ : List Key)) (m := List.zip _ xs) (by rw [List.length_zip, l, Nat.min_self])]; exact hf
  · obtain ⟨a, xs, O', e, g, n, z, r⟩ := rt.ls
    subst e
    exact ⟨_, .inl ⟨xs, SqL.of (so _ _ g), rfl⟩, by rw [← e0 r.length]; exact hf⟩
  · obtain ⟨a, xs, O', e, g, l, n, z, r⟩ := rt
    subst e
    refine ⟨_, .inr (.inr ⟨_, so _ _ g, rfl⟩), ?_⟩
    rw [← e0 (l := (_ : List Key)) (m := List.zip _ xs) (by rw [List.length_zip, l, Nat.min_self])]; exact hf
  · exact hf.elim
theorem lt_tru {a : TDE} (ha : LE K E ta a) : LT K E (tTru K ta) (dTru a) := ⟨fun ρ Q QX ht G F σ H R hd k kx =>
  ha.run ρ _ QX ht G F σ H _ hd (fun G1 H1 τ ρ1 v s1 hd1 q1 => by
    obtain ⟨Ov, O, p, d, rt, h2⟩ := id hd1
    obtain ⟨b, t, q⟩ := tru_sound (G := G1) (F := F) (ρ := ρ1) (σ := σ) q1 rt (jn_l.trans p.o) p.g
    exact ⟨b, t, k G1 H1 b ρ1 s1 hd1.drop q⟩) kx⟩
theorem lt_truV : LT K E (tTru K (tVar i)) (dTruV i) := ⟨fun ρ Q QX ht G F σ H R hd k kx => by
  unfold dTruV at ht
  cases e : slot ρ i with
  | none => rw [e] at ht; exact ht.elim
  | some τ =>
    rw [e] at ht
    obtain ⟨v, q, h1⟩ := hd.focus e
    obtain ⟨Ov, O, p, d, rt, h2⟩ := id h1
    obtain ⟨b, t, q2⟩ := tru_sound (G := G) (F := F) (ρ := ρ) (σ := σ) ht rt (jn_l.trans p.o) p.g
    exact ⟨v, q, b, t, k G H b ρ Sub.refl hd q2⟩⟩
theorem lt_b {a : TDE} (ha : LE K E ta a) : LT K E (tTest ta) (dTB a) := ⟨fun ρ Q QX ht G F σ H R hd k kx =>
  ha.run ρ _ QX ht G F σ H _ hd (fun G1 H1 τ ρ1 v s1 hd1 q1 => by
    split at q1
    · exact ⟨_, hd1.fz, k G1 H1 _ ρ1 s1 hd1.drop q1⟩
    · exact q1.elim) kx⟩
theorem lt_and {a b : TDT} (ha : LT K E tt a) (hb : LT K E tu b) : LT K E (tAnd tt tu) (dAnd a b) := ⟨fun ρ Q QX ht G F σ H R hd k kx =>
  ha.run ρ _ QX ht G F σ H _ hd (fun G1 H1 c ρ1 s1 hd1 q1 => by
    cases c with
    | true =>
      replace q1 := ifG_tt q1
      rw [if_pos rfl]
      exact hb.run ρ1 Q QX q1 G1 F σ H1 R hd1 (fun G2 H2 c2 ρ2 s2 => k G2 H2 c2 ρ2 (s1.trans s2)) (kx.mono s1)
    | false =>
      replace q1 := ifG_ff q1
      rw [if_neg Bool.false_ne_true]
      exact k G1 H1 false ρ1 s1 hd1 q1) kx⟩
theorem lt_or {a b : TDT} (ha : LT K E tt a) (hb : LT K E tu b) : LT K E (tOr tt tu) (dOr a b) := ⟨fun ρ Q QX ht G F σ H R hd k kx =>
  ha.run ρ _ QX ht G F σ H _ hd (fun G1 H1 c ρ1 s1 hd1 q1 => by
    cases c with
    | false =>
      replace q1 := ifG_ff q1
      rw [if_neg Bool.false_ne_true]
      exact hb.run ρ1 Q QX q1 G1 F σ H1 R hd1 (fun G2 H2 c2 ρ2 s2 => k G2 H2 c2 ρ2 (s1.trans s2)) (kx.mono s1)
    | true =>
      replace q1 := ifG_tt q1
      rw [if_pos rfl]
      exact k G1 H1 true ρ1 s1 hd1 q1) kx⟩
theorem lt_not {a : TDT} (ha : LT K E tt a) : LT K E (tNot tt) (dNot a) := ⟨fun ρ Q QX ht G F σ H R hd k kx =>
  ha.run ρ _ QX ht G F σ H _ hd (fun G1 H1 c ρ1 s1 hd1 q1 => k G1 H1 (!c) ρ1 s1 hd1 q1) kx⟩
end
/-- and, or, not as values: all but the last a bool -/
def dAndV (a : TDE) (b : TDE) (ρ : Dl.Env) (Q : T → Dl.Env → Prop) (QX : XQ) : Prop := a ρ (fun τ ρ1 => match τ with
  | .fz (.bl c) => IfG c (b ρ1 Q QX) (Q (.fz (.bl false)) ρ1)
  | _ => False) QX
def dOrV (a : TDE) (b : TDE) (ρ : Dl.Env) (Q : T → Dl.Env → Prop) (QX : XQ) : Prop := a ρ (fun τ ρ1 => match τ with
  | .fz (.bl c) => IfG c (Q (.fz (.bl true)) ρ1) (b ρ1 Q QX)
  | _ => False) QX
def dNotV (a : TDE) (ρ : Dl.Env) (Q : T → Dl.Env → Prop) (QX : XQ) : Prop := a ρ (fun τ ρ1 => match τ with
  | .fz (.bl c) => Q (.fz (.bl (!c))) ρ1
  | _ => False) QX
def dIfE (c : TDT) (a b : TDE) (ρ : Dl.Env) (Q : T → Dl.Env → Prop) (QX : XQ) : Prop := c ρ (fun k ρ1 => IfG k (a ρ1 Q QX) (b ρ1 Q QX)) QX
section
variable {K : PySem.W.Frag} {E : EK} {te ta tb : TE} {tt tu : TT} {i : Nat}
theorem le_andV {a b : TDE} (ha : LE K E ta a) (hb : LE K E tb b) : LE K E (tAndV ta tb) (dAndV a b) := ⟨fun ρ Q QX ht G F σ H R hd k kx =>
  ha.run ρ _ QX ht G F σ H _ hd (fun G1 H1 τ ρ1 v s1 hd1 q1 => by
    split at q1
    · rename_i c
      refine ⟨c, hd1.fz, ?_⟩
      cases c with
      | true =>
        replace q1 := ifG_tt q1
        rw [if_pos rfl]
        exact hb.run ρ1 Q QX q1 G1 F σ H1 R hd1.drop (fun G2 H2 c2 ρ2 v s2 => k G2 H2 c2 ρ2 v (s1.trans s2)) (kx.mono s1)
      | false =>
        replace q1 := ifG_ff q1
        rw [if_neg Bool.false_ne_true]
        exact k G1 H1 _ ρ1 _ s1 (hd1.drop.fz (d := .bl false) rfl) q1
    · exact q1.elim) kx⟩
theorem le_orV {a b : TDE} (ha : LE K E ta a) (hb : LE K E tb b) : LE K E (tOrV ta tb) (dOrV a b) := ⟨fun ρ Q QX ht G F σ H R hd k kx =>
  ha.run ρ _ QX ht G F σ H _ hd (fun G1 H1 τ ρ1 v s1 hd1 q1 => by
    split at q1
    · rename_i c
      refine ⟨c, hd1.fz, ?_⟩
      cases c with
      | false =>
        replace q1 := ifG_ff q1
        rw [if_neg Bool.false_ne_true]
        exact hb.run ρ1 Q QX q1 G1 F σ H1 R hd1.drop (fun G2 H2 c2 ρ2 v s2 => k G2 H2 c2 ρ2 v (s1.trans s2)) (kx.mono s1)
      | true =>
        replace q1 := ifG_tt q1
        rw [if_pos rfl]
        exact k G1 H1 _ ρ1 _ s1 (hd1.drop.fz (d := .bl true) rfl) q1
    · exact q1.elim) kx⟩
theorem le_notV {a : TDE} (ha : LE K E ta a) : LE K E (tNotV ta) (dNotV a) := ⟨fun ρ Q QX ht G F σ H R hd k kx =>
  ha.run ρ _ QX ht G F σ H _ hd (fun G1 H1 τ ρ1 v s1 hd1 q1 => by
    split at q1
    · exact ⟨_, hd1.fz, k G1 H1 _ ρ1 _ s1 (hd1.drop.fz (d := .bl _) rfl) q1⟩
    · exact q1.elim) kx⟩
theorem le_ifE {c : TDT} {a b : TDE} (hc : LT K E tt c) (ha : LE K E ta a) (hb : LE K E tb b) : LE K E (tIf tt ta tb) (dIfE c a b) := ⟨fun ρ Q QX ht G F σ H R hd k kx =>
  hc.run ρ _ QX ht G F σ H _ hd (fun G1 H1 c ρ1 s1 hd1 q1 => by
    cases c with
    | true =>
      replace q1 := ifG_tt q1
      rw [if_pos rfl]
      exact ha.run ρ1 Q QX q1 G1 F σ H1 R hd1 (fun G2 H2 c2 ρ2 v s2 => k G2 H2 c2 ρ2 v (s1.trans s2)) (kx.mono s1)
    | false =>
      replace q1 := ifG_ff q1
      rw [if_neg Bool.false_ne_true]
      exact hb.run ρ1 Q QX q1 G1 F σ H1 R hd1 (fun G2 H2 c2 ρ2 v s2 => k G2 H2 c2 ρ2 v (s1.trans s2)) (kx.mono s1)) kx⟩
end

/-! ### displays -/
/-- a written list, a written tuple: the items frozen -/
def dLst (a : TDA) (ρ : Dl.Env) (Q : T → Dl.Env → Prop) (QX : XQ) : Prop := a ρ (fun as ρ1 => match ArgsD as with
  | some ds => ds.length ≤ sizeLine ∧ Q (.ls (fzs ds)) ρ1
  | none => False) QX
def dTup (a : TDA) (ρ : Dl.Env) (Q : T → Dl.Env → Prop) (QX : XQ) : Prop := a ρ (fun as ρ1 => match ArgsD as with
  | some ds => ds.length ≤ sizeLine ∧ Q (.fz (.tup ds)) ρ1
  | none => False) QX
section
variable {K : PySem.W.Frag} {E : EK} {ta : TA}
theorem le_lst {a : TDA} (ha : LA K E ta a) : LE K E (tLst ta) (dLst a) := ⟨fun ρ Q QX ht G F σ H R hd k kx =>
  ha.run ρ _ QX ht G F σ H _ hd (fun G1 H1 as ρ1 vs s1 hd1 ra q1 => by
    cases e : ArgsD as with
    | none => rw [e] at q1; exact q1.elim
    | some ds =>
      rw [e] at q1
      have r := ArgsD_rep e ra
      exact ⟨by rw [← r.length]; exact q1.1, fun p np => k G1 _ _ ρ1 _ s1 (hd1.newL np r) q1.2⟩) kx⟩
theorem le_tup {a : TDA} (ha : LA K E ta a) : LE K E (tTup ta) (dTup a) := ⟨fun ρ Q QX ht G F σ H R hd k kx =>
  ha.run ρ _ QX ht G F σ H _ hd (fun G1 H1 as ρ1 vs s1 hd1 ra q1 => by
    cases e : ArgsD as with
    | none => rw [e] at q1; exact q1.elim
    | some ds =>
      rw [e] at q1
      have r := ArgsD_rep e ra
      refine ⟨by rw [← r.length]; exact q1.1, fun p np => ?_⟩
      obtain ⟨s, h2⟩ := hd1.newG (u := .tup vs) np
      exact k _ _ _ ρ1 _ (s1.trans s) (h2.fz (d := .tup ds) ⟨p, vs, rfl, SqT.of upd_same, r.mono s⟩) q1.2) kx⟩
end

/-! ### slices -/
def cut {α : Type} (xs : List α) (lo hi : Option Int) : List α := (xs.drop (HT.sIx xs.length 0 lo)).take (HT.sIx xs.length xs.length hi - HT.sIx xs.length 0 lo)
abbrev TDO := Env → (Option Int → Env → Prop) → XQ → Prop
structure LO (K : PySem.W.Frag) (E : EK) (te : TO) (t : TDO) : Prop where
  run : ∀ ρ Q QX, t ρ Q QX → ∀ G F σ H R, Hd K G F ρ σ H → (∀ G' H' o ρ', Sub G G' → Hd K G' F ρ' σ H' → Q o ρ' → R o H') → OnX K E G F σ QX → te σ H R
def dNoPart (ρ : Dl.Env) (Q : Option Int → Dl.Env → Prop) (QX : XQ) : Prop := Q none ρ
def dPart (a : TDD) (ρ : Dl.Env) (Q : Option Int → Dl.Env → Prop) (QX : XQ) : Prop := a ρ (fun d ρ1 => match d with
  | .int i => Q (some i) ρ1
  | _ => False) QX
def fSl : T → Option Int → Option Int → (T → Prop) → Prop := fun τ lo hi k => match τ with
  | .fz (.lst ds) => k (.ls (fzs (cut ds lo hi)))
  | .fz (.tup ds) => k (.fz (.tup (cut ds lo hi)))
  | .fz (.sq ds) => k (.ls (fzs (cut ds lo hi)))
  | .ls ts => ExG (fun ds => ts = fzs ds) fun ds => k (.ls (fzs (cut ds lo hi)))
  | _ => False
def rSlG (K : PySem.W.Frag) : V → Option Int → Option Int → Hp → VK → Prop := fun x lo hi H Q => rSlL K x lo hi H Q ∨ rSlA K x lo hi H Q
theorem sl_G {X : Cx} : SlR X (rSlG X.K) := sl_list.or sl_tupA
def dSl (a : TDE) (l u : TDO) (ρ : Dl.Env) (Q : T → Dl.Env → Prop) (QX : XQ) : Prop := a ρ (fun τ ρ1 => l ρ1 (fun lo ρ2 => u ρ2 (fun hi ρ3 => fSl τ lo hi fun τ' => Q τ' ρ3) QX) QX) QX
def dSlV (i : Nat) (l u : TDO) (ρ : Dl.Env) (Q : T → Dl.Env → Prop) (QX : XQ) : Prop := match slot ρ i with
  | some _ => l ρ (fun lo ρ2 => u ρ2 (fun hi ρ3 => match slot ρ3 i with
    | some τ => fSl τ lo hi fun τ' => Q τ' ρ3
    | none => False) QX) QX
  | none => False
section
variable {K : PySem.W.Frag} {E : EK} {te ta tb : TE} {tl tu : TO} {i : Nat}
theorem lo_none : LO K E tNoPart dNoPart := ⟨fun ρ Q QX ht G F σ H R hd k kx => k G H none ρ Sub.refl hd ht⟩
theorem lo_some {a : TDD} (ha : LD K E ta a) : LO K E (tPart ta) (dPart a) := ⟨fun ρ Q QX ht G F σ H R hd k kx =>
  ha.run ρ _ QX ht G F σ H _ hd (fun G1 H1 d ρ1 v s1 hd1 r1 q1 => by
    split at q1
    · exact ⟨_, r1, k G1 H1 _ ρ1 s1 hd1 q1⟩
    · exact q1.elim) kx⟩
theorem Reps.cut {G : Hp} {ds : List D} {xs : List V} (r : Reps K G ds xs) (lo hi : Option Int) : Reps K G (cut ds lo hi) (cutV xs lo hi) := by
  unfold Dl.cut cutV
  rw [r.length]
  exact (r.drop _).take _
theorem cut_all {α : Type} {xs : List α} {lo hi : Option Int} (h : HT.sIx xs.length 0 lo = 0 ∧ HT.sIx xs.length xs.length hi = xs.length) : cut xs lo hi = xs := by
  unfold cut
  rw [h.1, h.2]
  simp
theorem sl_sound {τ : T} {lo hi : Option Int} {k : T → Prop} (hf : fSl τ lo hi k) {G F H : Hp} {ρ : Env} {σ : St} {v : V} {Ov : Hp} {R : VK} (rt : RepT K G τ v Ov) (so : Sub Ov H) (hd : Hd K G F ρ σ H)
    (kk : ∀ G' H' τ' v', Sub G G' → HdT K G' F τ' v' ρ σ H' → k τ' → R v' H') : rSlG K v lo hi H R := by
  unfold fSl at hf
  split at hf
  · obtain ⟨a, xs, e, g, r⟩ := hd.lst rt
    exact .inl ⟨a, xs, e, SqL.of g, hd.retL kk (r.cut lo hi) hf⟩
  · rename_i ds
    obtain ⟨a, xs, e, g, r⟩ := hd.tup rt
    refine .inr ⟨a, xs, e, g, fun h => ?_, fun _ => hd.retT kk (r.cut lo hi) hf⟩
    rw [cut_all (by rw [r.length]; exact h)] at hf
    rw [← e]
    exact hd.ret kk rt hf
  · obtain ⟨a, xs, e, g, r⟩ := rt
    exact .inl ⟨a, xs, e, SqL.sub hd.sl g, hd.retL kk (r.cut lo hi) hf⟩
  · obtain ⟨ds, e0, hf⟩ := hf
    subst e0
    obtain ⟨a, xs, O', e, g, n, z, r⟩ := rt.ls
    exact .inl ⟨a, xs, e, SqL.of (so _ _ g), hd.retL kk ((rep_fzs r).cut lo hi) hf⟩
  · exact hf.elim
theorem le_sl {a : TDE} {l u : TDO} (ha : LE K E ta a) (hl : LO K E tl l) (hu : LO K E tu u) : LE K E (tSl (rSlG K) ta tl tu) (dSl a l u) := ⟨fun ρ Q QX ht G F σ H R hd k kx =>
  ha.run ρ _ QX ht G F σ H _ hd (fun G1 H1 τ ρ1 v s1 hd1 q1 => by
    obtain ⟨Ov, r1, d1, h2⟩ := hd1.frame
    have kx1 : OnX K E G1 (jn Ov F) σ QX := fun G2 H2 x ρ2 c da s2 hd2 rx qx => kx G2 H2 x ρ2 c da (s1.trans s2) (hd2.subF (jn_r d1)) rx qx
    refine hl.run ρ1 _ QX q1 G1 (jn Ov F) σ H1 _ h2 (fun G2 H2 lo ρ2 s2 hd2 q2 => hu.run ρ2 _ QX q2 G2 (jn Ov F) σ H2 _ hd2 (fun G3 H3 hi ρ3 s3 hd3 q3 => ?_) (kx1.mono s2)) kx1
    have so : Sub Ov H3 := by
      obtain ⟨O, p, _⟩ := hd3
      exact jn_l.trans p.f
    exact sl_sound q3 (r1.mono (s2.trans s3) Sub.refl) so hd3 fun G4 H4 τ' v' s4 h4 q4 => k G4 H4 τ' ρ3 v' (s1.trans (s2.trans (s3.trans s4))) (h4.subF (jn_r d1)) q4) kx⟩
theorem le_slV {l u : TDO} (hl : LO K E tl l) (hu : LO K E tu u) : LE K E (tSl (rSlG K) (tVar i) tl tu) (dSlV i l u) := ⟨fun ρ Q QX ht G F σ H R hd k kx => by
  unfold dSlV at ht
  cases e0 : slot ρ i with
  | none => rw [e0] at ht; exact ht.elim
  | some τ0 =>
    rw [e0] at ht
    obtain ⟨v, Ov0, q, _⟩ := hd.lend e0
    refine ⟨v, q, ?_⟩
    refine hl.run ρ _ QX ht G F σ H _ hd (fun G1 H1 lo ρ1 s1 hd1 q1 => hu.run ρ1 _ QX q1 G1 F σ H1 _ hd1 (fun G2 H2 hi ρ2 s2 hd2 q2 => ?_) (kx.mono s1)) kx
    cases e : slot ρ2 i with
    | none => rw [e] at q2; exact q2.elim
    | some τ =>
      rw [e] at q2
      obtain ⟨v', Ov, q', rv, d1, so, h2⟩ := hd2.lend e
      rw [q] at q'; cases q'
      refine sl_sound q2 rv so h2 fun G3 H3 τ' v' s3 h3 q3 => k G3 H3 τ' ρ2 v' (s1.trans (s2.trans s3)) ?_ q3
      have := h3.backs rv s3 d1 (slot_lt e) q
      rwa [set_slot e] at this⟩
end
end Dl

namespace Dl
open PySem L2

/-! ### targets -/
abbrev TGD := T → Env → (Env → Prop) → XQ → Prop
structure LG (K : PySem.W.Frag) (E : EK) (Pn : St → Prop) (tg : TG) (g : TGD) : Prop where
  run : ∀ τ ρ Q QX, g τ ρ Q QX → ∀ G F σ H v R, HdT K G F τ v ρ σ H → Pn σ → (∀ G' H' σ' ρ', Sub G G' → Hd K G' F ρ' σ' H' → Pn σ' → Q ρ' → R σ' H') → OnX K E G F σ QX → tg v σ H R
structure LGs (K : PySem.W.Frag) (E : EK) (Pn : St → Prop) (tg : TGs) (g : List D → Env → (Env → Prop) → XQ → Prop) : Prop where
  run : ∀ ds ρ Q QX, g ds ρ Q QX → ∀ G F σ H vs R, Hd K G F ρ σ H → Reps K G ds vs → Pn σ → (∀ G' H' σ' ρ', Sub G G' → Hd K G' F ρ' σ' H' → Pn σ' → Q ρ' → R σ' H') → (∀ σ', Pn σ' → OnX K E G F σ' QX) → tg vs σ H R
structure DG (K : PySem.W.Frag) (X : Cx) (E : EK) (Pn : St → Prop) (e : Expr) (tg : TG) (g : TGD) : Prop where
  hK : X.K = K
  pg : PG X e tg
  lg : LG K E Pn tg g
/-- slots that stay -/
def PinOk (io : List Bool) (vs : List V) (σ : St) : Prop := vs.length ≤ σ.length ∧ ∀ (j : Nat) (v : V), io[j]? = some true → vs[j]? = some v → σ[j]? = some (some v)
def Keeps (Pn : St → Prop) (i : Nat) : Prop := ∀ σ v, Pn σ → Pn (σ.set i (some v))
theorem pin_keeps {io : List Bool} {vs : List V} {i : Nat} (h : io[i]? ≠ some true) : Keeps (PinOk io vs) i := fun σ v p => ⟨by rw [List.length_set]; exact p.1, fun j x h1 h2 => by
  have : i ≠ j := fun e => h (e ▸ h1)
  rw [List.getElem?_set_ne this]
  exact p.2 j x h1 h2⟩
/-- in a block: the wiped slots -/
theorem wipe_keeps {σ0 : St} {vs : List Nat} {i : Nat} (h : i ∈ vs) : Keeps (fun σ => wipe σ vs = wipe σ0 vs) i := fun σ v p => by
  have : ∀ (ws : List Nat) (σ : St), i ∈ ws → wipe (σ.set i (some v)) ws = wipe σ ws := by
    intro ws
    induction ws with
    | nil => intro σ h; cases h
    | cons w ws ih =>
      intro σ h
      unfold wipe
      by_cases hw : i ∈ ws
      · rw [ih σ hw]
      · have e : i = w := by
          rcases List.mem_cons.mp h with z | z
          · exact z
          · exact absurd z hw
        subst e
        have q : ∀ (us : List Nat) (σ : St), i ∉ us → wipe (σ.set i (some v)) us = (wipe σ us).set i (some v) := by
          intro us
          induction us with
          | nil => intro σ _; rfl
          | cons u us ih2 =>
            intro σ hu
            unfold wipe
            have ne : i ≠ u := fun z => hu (by rw [z]; exact List.mem_cons_self)
            rw [ih2 σ (fun z => hu (List.mem_cons_of_mem _ z)), List.set_comm _ _ ne]
        rw [q ws σ hw]
        simp
  show wipe (σ.set i (some v)) vs = _
  rw [this vs σ h]
  exact p
def gN (i : Nat) (τ : T) (ρ : Dl.Env) (Q : Dl.Env → Prop) (QX : XQ) : Prop := i < ρ.length ∧ Q (ρ.set i (some τ))
def gDrop (τ : T) (ρ : Dl.Env) (Q : Dl.Env → Prop) (QX : XQ) : Prop := Q ρ
def gsNil (ds : List D) (ρ : Dl.Env) (Q : Dl.Env → Prop) (QX : XQ) : Prop := ds = [] ∧ Q ρ
def gsCons (g : TGD) (r : List D → Env → (Env → Prop) → XQ → Prop) (ds : List D) (ρ : Dl.Env) (Q : Dl.Env → Prop) (QX : XQ) : Prop := match ds with
  | d :: es => g (.fz d) ρ (fun ρ1 => r es ρ1 Q QX) QX
  | [] => False
/-- a, b = a tuple -/
def gT (n : Nat) (r : List D → Env → (Env → Prop) → XQ → Prop) (τ : T) (ρ : Dl.Env) (Q : Dl.Env → Prop) (QX : XQ) : Prop := match τ.d with
  | .tup ds => ds.length = n ∧ r ds ρ Q QX
  | _ => False
/-- slot i [e] = .. (an owned list) -/
def gSubL (i : Nat) (b : TDD) (τ : T) (ρ : Dl.Env) (Q : Dl.Env → Prop) (QX : XQ) : Prop := match τ, slot ρ i with
  | .fz d, some _ => b ρ (fun y ρ1 => match slot ρ1 i, y with
    | some (.ls ts), .int k => ExG (fun j => ixN ts.length k = some j) fun j => Q (ρ1.set i (some (.ls (ts.set j (.fz d)))))
    | _, _ => False) QX
  | _, _ => False
section
variable {K : PySem.W.Frag} {E : EK} {Pn : St → Prop} {i n : Nat} {tb : TE}
theorem lg_name (hp : Keeps Pn i) : LG K E Pn (gName i) (gN i) := ⟨fun τ ρ Q QX h G F σ H v R hd p k kx => by
  obtain ⟨hi, h⟩ := h
  refine k G H _ _ Sub.refl ?_ (hp σ v p) h
  obtain ⟨Ov, O, s, dj, r, h2⟩ := hd
  exact HdT.put (τ := τ) hi ⟨Ov, O, s, dj, r, h2.drop i⟩⟩
theorem lgs_nil : LGs K E Pn gNil gsNil := ⟨fun ds ρ Q QX h G F σ H vs R hd r p k kx => by
  obtain ⟨e, h⟩ := h
  subst e
  cases r
  exact ⟨rfl, k G H σ ρ Sub.refl hd p h⟩⟩
theorem lgs_cons {tg : TG} {tr : TGs} {g : TGD} {r : List D → Env → (Env → Prop) → XQ → Prop} (hg : LG K E Pn tg g) (hr : LGs K E Pn tr r) : LGs K E Pn (gCons tg tr) (gsCons g r) := ⟨fun ds ρ Q QX h G F σ H vs R hd rv p k kx => by
  unfold gsCons at h
  split at h
  · obtain ⟨x, xs, e, r1, r2⟩ := rv
    subst e
    refine ⟨x, xs, rfl, hg.run _ ρ _ QX h G F σ H x _ (hd.fz r1) p (fun G1 H1 σ1 ρ1 s1 hd1 p1 q1 => ?_) (kx σ p)⟩
    exact hr.run _ ρ1 Q QX q1 G1 F σ1 H1 xs R hd1 (r2.mono s1) p1 (fun G2 H2 σ2 ρ2 s2 => k G2 H2 σ2 ρ2 (s1.trans s2)) fun σ' p' => (kx σ' p').mono s1
  · exact h.elim⟩
/-- the targets raise nothing here -/
theorem lg_tup {tr : TGs} {r : List D → Env → (Env → Prop) → XQ → Prop} (hr : LGs K E Pn tr r) : LG K E Pn (gTup K n tr) (fun τ ρ Q _ => gT n r τ ρ Q fun _ _ => False) := ⟨fun τ ρ Q QX h G F σ H v R hd p k kx => by
  unfold gT at h
  obtain ⟨G1, s1, hd1, r1⟩ := hd.freeze
  cases e : τ.d with
  | tup ds =>
    rw [e] at h r1
    obtain ⟨a, xs, e1, g, rr⟩ := hd1.tup r1
    refine ⟨a, xs, e1, g, by rw [← rr.length]; exact h.1, hr.run ds ρ Q _ h.2 G1 F σ H xs R hd1 rr p (fun G2 H2 σ2 ρ2 s2 => k G2 H2 σ2 ρ2 (s1.trans s2)) fun σ' _ => ?_⟩
    exact fun _ _ _ _ _ _ _ _ _ z => z.elim
  | _ => rw [e] at h; exact h.elim⟩
theorem lg_subL {b : TDD} (hb : LD K E tb b) : LG K E Pn (gSub (tVar i) tb rSetL) (gSubL i b) := ⟨fun τ ρ Q QX h G F σ H v R hd p k kx => by
  unfold gSubL at h
  split at h
  · rename_i d t0 e0
    have rd : Rep K G d v := hd.fz
    have hd := hd.drop
    obtain ⟨o, Ov0, q, _⟩ := hd.lend e0
    refine ⟨o, q, hb.run ρ _ QX h G F σ H _ hd (fun G1 H1 y ρ1 vy s1 hd1 ry q1 => ?_) kx⟩
    split at q1
    · rename_i ts kk e1
      obtain ⟨j, hj, q1⟩ := q1
      obtain ⟨o', q', h1⟩ := hd1.focus e1
      rw [q] at q'; cases q'
      obtain ⟨a, xs, ev, g, hl, _, wr⟩ := h1.write
      subst ev
      refine ⟨a, xs, kk, j, rfl, ry, g, by rw [← hl]; exact hj, ?_⟩
      exact k G1 _ σ _ s1 ((wr _ _ fun O' qq => qq.setF (rd.mono s1) j).back (slot_lt e1) q) p q1
    · exact q1.elim
  · exact h.elim⟩
end

/-! ### statements -/
structure EndsD where
  nx : Env → Prop
  rt : T → Env → Prop
  bk : Env → Prop
  ct : Env → Prop
  ex : XQ
/-- the data's ends reach the state's -/
structure Lk (K : PySem.W.Frag) (E : EK) (Pn : St → Prop) (G F : Hp) (D : EndsD) (En : Ends) : Prop where
  nx : ∀ G' H' σ' ρ', Sub G G' → Hd K G' F ρ' σ' H' → Pn σ' → D.nx ρ' → En.nx σ' H'
  rt : ∀ G' H' σ' ρ' τ v, Sub G G' → HdT K G' F τ v ρ' σ' H' → Pn σ' → D.rt τ ρ' → En.rt v H'
  bk : ∀ G' H' σ' ρ', Sub G G' → Hd K G' F ρ' σ' H' → Pn σ' → D.bk ρ' → En.bk σ' H'
  ct : ∀ G' H' σ' ρ', Sub G G' → Hd K G' F ρ' σ' H' → Pn σ' → D.ct ρ' → En.ct σ' H'
  ex : ∀ G' σ', Sub G G' → Pn σ' → OnX K E G' F σ' D.ex
theorem Lk.mono {K : PySem.W.Frag} {E : EK} {Pn : St → Prop} {G G1 F : Hp} {D : EndsD} {En : Ends} (h : Lk K E Pn G F D En) (s : Sub G G1) : Lk K E Pn G1 F D En :=
  ⟨fun G' H' σ' ρ' z => h.nx G' H' σ' ρ' (s.trans z), fun G' H' σ' ρ' τ v z => h.rt G' H' σ' ρ' τ v (s.trans z), fun G' H' σ' ρ' z => h.bk G' H' σ' ρ' (s.trans z), fun G' H' σ' ρ' z => h.ct G' H' σ' ρ' (s.trans z), fun G' σ' z => h.ex G' σ' (s.trans z)⟩
abbrev TSD := EndsD → Env → Prop
structure LS (K : PySem.W.Frag) (E : EK) (Pn : St → Prop) (te : TS) (t : TSD) : Prop where
  run : ∀ ρ D, t D ρ → ∀ G F σ H En, Hd K G F ρ σ H → Pn σ → Lk K E Pn G F D En → te En σ H
structure DS (K : PySem.W.Frag) (X : Cx) (E : EK) (Pn : St → Prop) (st : Stmt) (te : TS) (t : TSD) : Prop where
  hK : X.K = K
  ps : PS X st te
  ls : LS K E Pn te t
structure DSs (K : PySem.W.Frag) (X : Cx) (E : EK) (Pn : St → Prop) (st : List Stmt) (te : TS) (t : TSD) : Prop where
  hK : X.K = K
  ps : PSs X st te
  ls : LS K E Pn te t
def sNext (D : EndsD) (ρ : Dl.Env) : Prop := D.nx ρ
def sSeq (a b : TSD) (D : EndsD) (ρ : Dl.Env) : Prop := a { D with nx := b D } ρ
def sBreak (D : EndsD) (ρ : Dl.Env) : Prop := D.bk ρ
def sCont (D : EndsD) (ρ : Dl.Env) : Prop := D.ct ρ
def sNever (Dx : EndsD) (ρ : Dl.Env) : Prop := False
def sDrop (a : TDE) (D : EndsD) (ρ : Dl.Env) : Prop := a ρ (fun _ ρ1 => D.nx ρ1) D.ex
def sRet (a : TDE) (D : EndsD) (ρ : Dl.Env) : Prop := a ρ (fun τ ρ1 => D.rt τ ρ1) D.ex
def sRetN (D : EndsD) (ρ : Dl.Env) : Prop := D.rt (.fz .non) ρ
def sIf (c : TDT) (a b : TSD) (D : EndsD) (ρ : Dl.Env) : Prop := c ρ (fun k ρ1 => IfG k (a D ρ1) (b D ρ1)) D.ex
def sAsg (a : TDE) (g : TGD) (D : EndsD) (ρ : Dl.Env) : Prop := a ρ (fun τ ρ1 => g τ ρ1 (fun ρ2 => D.nx ρ2) D.ex) D.ex
/-- an invariant by a measure -/
def sWhile (c : TDT) (b : TSD) (D : EndsD) (ρ : Dl.Env) : Prop := ∃ I : Nat → Env → Prop, (∃ m, I m ρ) ∧ ∀ m ρ, I m ρ →
  c ρ (fun k ρ1 => IfG k (b { D with nx := fun ρ2 => ∃ m', m' < m ∧ I m' ρ2, ct := fun ρ2 => ∃ m', m' < m ∧ I m' ρ2, bk := D.nx } ρ1) (D.nx ρ1)) D.ex
section
variable {K : PySem.W.Frag} {E : EK} {Pn : St → Prop} {te ta : TE} {tt : TT} {ts us : TS}
theorem ls_next : LS K E Pn tNext sNext := ⟨fun ρ D h G F σ H En hd p k => k.nx G H σ ρ Sub.refl hd p h⟩
theorem ls_never {t : TS} : LS K E Pn t sNever := ⟨fun ρ D h G F σ H En hd p k => h.elim⟩
theorem ls_break : LS K E Pn tBreak sBreak := ⟨fun ρ D h G F σ H En hd p k => k.bk G H σ ρ Sub.refl hd p h⟩
theorem ls_cont : LS K E Pn tCont sCont := ⟨fun ρ D h G F σ H En hd p k => k.ct G H σ ρ Sub.refl hd p h⟩
theorem ls_seq {a b : TSD} (ha : LS K E Pn ts a) (hb : LS K E Pn us b) : LS K E Pn (tSeq ts us) (sSeq a b) := ⟨fun ρ D h G F σ H En hd p k =>
  ha.run ρ _ h G F σ H _ hd p ⟨fun G1 H1 σ1 ρ1 s1 hd1 p1 q1 => hb.run ρ1 D q1 G1 F σ1 H1 En hd1 p1 (k.mono s1), k.rt, k.bk, k.ct, k.ex⟩⟩
theorem ls_drop {a : TDE} (ha : LE K E te a) : LS K E Pn (tDrop te) (sDrop a) := ⟨fun ρ D h G F σ H En hd p k =>
  ha.run ρ _ _ h G F σ H _ hd (fun G1 H1 τ ρ1 v s1 hd1 q1 => k.nx G1 H1 σ ρ1 s1 hd1.drop p q1) (k.ex G σ Sub.refl p)⟩
theorem ls_ret {a : TDE} (ha : LE K E te a) : LS K E Pn (tRet te) (sRet a) := ⟨fun ρ D h G F σ H En hd p k =>
  ha.run ρ _ _ h G F σ H _ hd (fun G1 H1 τ ρ1 v s1 hd1 q1 => k.rt G1 H1 σ ρ1 τ v s1 hd1 p q1) (k.ex G σ Sub.refl p)⟩
theorem ls_retN : LS K E Pn tRetN sRetN := ⟨fun ρ D h G F σ H En hd p k => k.rt G H σ ρ _ _ Sub.refl (hd.fz (d := .non) rfl) p h⟩
theorem ls_if {c : TDT} {a b : TSD} (hc : LT K E tt c) (ha : LS K E Pn ts a) (hb : LS K E Pn us b) : LS K E Pn (tIfS tt ts us) (sIf c a b) := ⟨fun ρ D h G F σ H En hd p k =>
  hc.run ρ _ _ h G F σ H _ hd (fun G1 H1 c ρ1 s1 hd1 q1 => by
    cases c with
    | true =>
      replace q1 := ifG_tt q1
      rw [if_pos rfl]
      exact ha.run ρ1 D q1 G1 F σ H1 En hd1 p (k.mono s1)
    | false =>
      replace q1 := ifG_ff q1
      rw [if_neg Bool.false_ne_true]
      exact hb.run ρ1 D q1 G1 F σ H1 En hd1 p (k.mono s1)) (k.ex G σ Sub.refl p)⟩
theorem ls_asg {a : TDE} {tg : TG} {g : TGD} (ha : LE K E te a) (hg : LG K E Pn tg g) : LS K E Pn (tAsg te tg) (sAsg a g) := ⟨fun ρ D h G F σ H En hd p k =>
  ha.run ρ _ _ h G F σ H _ hd (fun G1 H1 τ ρ1 v s1 hd1 q1 => hg.run τ ρ1 _ _ q1 G1 F σ H1 v _ hd1 p (fun G2 H2 σ2 ρ2 s2 hd2 p2 q2 => k.nx G2 H2 σ2 ρ2 (s1.trans s2) hd2 p2 q2) (k.ex G1 σ s1 p)) (k.ex G σ Sub.refl p)⟩
theorem ls_while {c : TDT} {b : TSD} (hc : LT K E tt c) (hb : LS K E Pn ts b) : LS K E Pn (tWhile tt ts) (sWhile c b) := ⟨fun ρ D h G F σ H En hd p k => by
  obtain ⟨I, ⟨m0, h0⟩, step⟩ := h
  refine ⟨fun m σ H => ∃ G' ρ, Sub G G' ∧ Hd K G' F ρ σ H ∧ Pn σ ∧ I m ρ, ⟨m0, G, ρ, Sub.refl, hd, p, h0⟩, ?_⟩
  rintro m σ1 H1 ⟨G1, ρ1, s1, hd1, p1, i1⟩
  refine hc.run ρ1 _ _ (step m ρ1 i1) G1 F σ1 H1 _ hd1 (fun G2 H2 c ρ2 s2 hd2 q2 => ?_) (k.ex G1 σ1 s1 p1)
  cases c with
  | true =>
    replace q2 := ifG_tt q2
    rw [if_pos rfl]
    refine ⟨fun σ' H' => ∃ m', m' < m ∧ ∃ G' ρ, Sub G G' ∧ Hd K G' F ρ σ' H' ∧ Pn σ' ∧ I m' ρ, fun σ' H' z => z, ?_⟩
    refine hb.run ρ2 _ q2 G2 F σ1 H2 _ hd2 p1 ⟨fun G3 H3 σ3 ρ3 s3 hd3 p3 ⟨m', hm, i3⟩ => ⟨m', hm, G3, ρ3, s1.trans (s2.trans s3), hd3, p3, i3⟩,
      fun G3 H3 σ3 ρ3 τ v s3 => k.rt G3 H3 σ3 ρ3 τ v (s1.trans (s2.trans s3)), fun G3 H3 σ3 ρ3 s3 => k.nx G3 H3 σ3 ρ3 (s1.trans (s2.trans s3)), fun G3 H3 σ3 ρ3 s3 hd3 p3 ⟨m', hm, i3⟩ => ⟨m', hm, G3, ρ3, s1.trans (s2.trans s3), hd3, p3, i3⟩,
      fun G3 σ3 s3 => k.ex G3 σ3 (s1.trans (s2.trans s3))⟩
  | false =>
    replace q2 := ifG_ff q2
    rw [if_neg Bool.false_ne_true]
    exact k.nx G2 H2 σ1 ρ2 (s1.trans s2) hd2 p1 q2⟩
end

/-! ### what is walked -/
/-- it gives these data, one after another -/
def ItD (K : PySem.W.Frag) (J : It) (G F : Hp) (ds : List D) : Prop := ∀ G' ρ σ H, Sub G G' → Hd K G' F ρ σ H →
  (∀ i, i < ds.length → J.go i H) ∧ J.stop ds.length H ∧ ∀ i x H', i < ds.length → J.yld i H x H' → ∃ G2 d, Sub G' G2 ∧ Hd K G2 F ρ σ H' ∧ ds[i]? = some d ∧ Rep K G2 d x
theorem ItD.mono {K : PySem.W.Frag} {J : It} {G G' F : Hp} {ds : List D} (h : ItD K J G F ds) (s : Sub G G') : ItD K J G' F ds := fun G2 ρ σ H z => h G2 ρ σ H (s.trans z)
abbrev TID := Env → (List D → Env → Prop) → XQ → Prop
structure LI (K : PySem.W.Frag) (E : EK) (wi : TI) (t : TID) : Prop where
  run : ∀ ρ Q QX, t ρ Q QX → ∀ G F σ H R, Hd K G F ρ σ H → (∀ G' H' ds ρ' J, Sub G G' → Hd K G' F ρ' σ H' → (∀ F', Sub F F' → ItD K J G' F' ds) → Q ds ρ' → R J H') → OnX K E G F σ QX → wi σ H R
structure DI (K : PySem.W.Frag) (X : Cx) (E : EK) (tg e : Expr) (wi : TI) (t : TID) : Prop where
  hK : X.K = K
  pi : PI X tg e wi
  li : LI K E wi t
/-- a for: I by the turn -/
def ForG (ds : List D) (g : TGD) (b : TSD) (D : EndsD) (ρ1 : Dl.Env) (_t : Tg D := .mk) : Prop := ∃ I : Nat → Env → Prop, I 0 ρ1 ∧
  (∀ i d ρ, ds[i]? = some d → I i ρ → g (.fz d) ρ (fun ρ2 => b { D with nx := I (i + 1), ct := I (i + 1), bk := D.nx } ρ2) D.ex) ∧ ∀ ρ, I ds.length ρ → D.nx ρ
def sFor (it : TID) (g : TGD) (b : TSD) (D : EndsD) (ρ : Dl.Env) : Prop := it ρ (fun ds ρ1 => ForG ds g b D ρ1) D.ex
section
variable {K : PySem.W.Frag} {E : EK} {Pn : St → Prop} {te ta : TE} {tt : TT} {ts us : TS}
theorem ls_for {wi : TI} {it : TID} {tg : TG} {g : TGD} {b : TSD} (hi : LI K E wi it) (hg : LG K E Pn tg g) (hb : LS K E Pn ts b) : LS K E Pn (tFor wi tg ts) (sFor it g b) := ⟨fun ρ D h G F σ H En hd p k => by
  refine hi.run ρ _ _ h G F σ H _ hd (fun G1 H1 ds ρ1 J s1 hd1 hj q1 => ?_) (k.ex G σ Sub.refl p)
  obtain ⟨I, h0, step, fin⟩ := q1
  have hj := hj F Sub.refl
  refine ⟨fun i m σ H => m = ds.length - i ∧ i ≤ ds.length ∧ ∃ G' ρ, Sub G1 G' ∧ Hd K G' F ρ σ H ∧ Pn σ ∧ I i ρ, ⟨ds.length, by simp, Nat.zero_le _, G1, ρ1, Sub.refl, hd1, p, h0⟩, ?_⟩
  rintro i m σ2 H2 ⟨em, hle, G2, ρ2, s2, hd2, p2, i2⟩
  obtain ⟨go, stop, yld⟩ := hj G2 ρ2 σ2 H2 s2 hd2
  by_cases hlt : i < ds.length
  · refine .inr ⟨go i hlt, fun σ H => ∃ G' ρ, Sub G1 G' ∧ Hd K G' F ρ σ H ∧ Pn σ ∧ I (i + 1) ρ, fun σ' H' z => ⟨ds.length - (i + 1), by omega, rfl, hlt, z⟩, fun x H3 y => ?_⟩
    obtain ⟨G3, d, s3, hd3, ed, rd⟩ := yld i x H3 hlt y
    refine hg.run (.fz d) ρ2 _ _ (step i d ρ2 ed i2) G3 F σ2 H3 x _ (hd3.fz rd) p2 (fun G4 H4 σ4 ρ4 s4 hd4 p4 q4 => ?_) (k.ex G3 σ2 (s1.trans (s2.trans s3)) p2)
    have s14 : Sub G1 G4 := s2.trans (s3.trans s4)
    exact hb.run ρ4 _ q4 G4 F σ4 H4 _ hd4 p4 ⟨fun G5 H5 σ5 ρ5 s5 hd5 p5 q5 => ⟨G5, ρ5, s14.trans s5, hd5, p5, q5⟩, fun G5 H5 σ5 ρ5 τ v s5 => k.rt G5 H5 σ5 ρ5 τ v (s1.trans (s14.trans s5)),
      fun G5 H5 σ5 ρ5 s5 => k.nx G5 H5 σ5 ρ5 (s1.trans (s14.trans s5)), fun G5 H5 σ5 ρ5 s5 hd5 p5 q5 => ⟨G5, ρ5, s14.trans s5, hd5, p5, q5⟩, fun G5 σ5 s5 => k.ex G5 σ5 (s1.trans (s14.trans s5))⟩
  · have e : i = ds.length := by omega
    subst e
    exact .inl ⟨stop, k.nx G2 H2 σ2 ρ2 (s1.trans s2) hd2 p2 (fin ρ2 i2)⟩⟩
end

/-! ### kinds of walks -/
/-- a list or a tuple -/
def iSeq (a : TDD) (ρ : Dl.Env) (Q : List D → Dl.Env → Prop) (QX : XQ) : Prop := a ρ (fun d ρ1 => match d with
  | .lst ds => Q ds ρ1
  | .tup ds => Q ds ρ1
  | _ => False) QX
def iL (a : TDD) (ρ : Dl.Env) (Q : List D → Dl.Env → Prop) (QX : XQ) : Prop := a ρ (fun d ρ1 => match d with
  | .lst ds => Q ds ρ1
  | _ => False) QX
def iT (a : TDD) (ρ : Dl.Env) (Q : List D → Dl.Env → Prop) (QX : XQ) : Prop := a ρ (fun d ρ1 => match d with
  | .tup ds => Q ds ρ1
  | _ => False) QX
section
variable {K : PySem.W.Frag} {E : EK} {te ta : TE}
theorem itd_list {G F : Hp} {ds : List D} {a : Addr} {xs : List V} (g : G a = some (.lst xs)) (r : Reps K G ds xs) : ItD K (Itl K a) G F ds := fun G' ρ σ H s hd => by
  have q : SqL K H a xs := SqL.of (hd.sl _ _ (s _ _ g))
  have W : Walk (Itl K a) xs.length (fun H => SqL K H a xs) (YAt xs) := walk_list
  rw [r.length]
  refine ⟨fun i hi => W.goes i H hi q, W.stops H q, fun i x H' hi y => ?_⟩
  obtain ⟨e, hx⟩ := W.yields i H x H' hi q y
  subst e
  obtain ⟨d, ed, rd⟩ := r.getV hx
  exact ⟨G', d, Sub.refl, hd, ed, rd.mono s⟩
theorem itd_tup {G F : Hp} {ds : List D} {a : Addr} {xs : List V} (g : SqT K G a xs) (r : Reps K G ds xs) : ItD K (Itt K a) G F ds := fun G' ρ σ H s hd => by
  have q : SqT K H a xs := SqT.sub (s.trans hd.sl) g
  have W : Walk (Itt K a) xs.length (fun H => SqT K H a xs) (YAt xs) := walk_tup
  rw [r.length]
  refine ⟨fun i hi => W.goes i H hi q, W.stops H q, fun i x H' hi y => ?_⟩
  obtain ⟨e, hx⟩ := W.yields i H x H' hi q y
  subst e
  obtain ⟨d, ed, rd⟩ := r.getV hx
  exact ⟨G', d, Sub.refl, hd, ed, rd.mono s⟩
theorem li_list {a : TDD} (ha : LD K E ta a) : LI K E (iList K ta) (iL a) := ⟨fun ρ Q QX ht G F σ H R hd k kx =>
  ha.run ρ _ QX ht G F σ H _ hd (fun G1 H1 d ρ1 v s1 hd1 r1 q1 => by
    split at q1
    · obtain ⟨b, xs, e, g, r⟩ := r1
      exact ⟨b, e, ⟨xs, SqL.of (hd1.sl _ _ g)⟩, k G1 H1 _ ρ1 _ s1 hd1 (fun F' _ => itd_list g r) q1⟩
    · exact q1.elim) kx⟩
theorem li_tup {a : TDD} (ha : LD K E ta a) : LI K E (iTup K ta) (iT a) := ⟨fun ρ Q QX ht G F σ H R hd k kx =>
  ha.run ρ _ QX ht G F σ H _ hd (fun G1 H1 d ρ1 v s1 hd1 r1 q1 => by
    split at q1
    · obtain ⟨b, xs, e, g, r⟩ := r1
      exact ⟨b, e, ⟨xs, SqT.sub hd1.sl g⟩, k G1 H1 _ ρ1 _ s1 hd1 (fun F' _ => itd_tup g r) q1⟩
    · exact q1.elim) kx⟩
/-- lo, lo + 1, .. -/
def rngD (lo : Int) (n : Nat) : List D := (List.range n).map fun i => .int (lo + (i : Nat))
def iR1 (a : TDA) (ρ : Dl.Env) (Q : List D → Dl.Env → Prop) (QX : XQ) : Prop := a ρ (fun as ρ1 => match as with
  | [.d (.int j)] => -(2 ^ 62) ≤ j ∧ j < 2 ^ 62 ∧ Q (rngD 0 j.toNat) ρ1
  | _ => False) QX
def iR2 (a : TDA) (ρ : Dl.Env) (Q : List D → Dl.Env → Prop) (QX : XQ) : Prop := a ρ (fun as ρ1 => match as with
  | [.d (.int i), .d (.int j)] => (-(2 ^ 62) ≤ i ∧ i < 2 ^ 62 ∧ -(2 ^ 62) ≤ j ∧ j < 2 ^ 62) ∧ Q (rngD i (j - i).toNat) ρ1
  | _ => False) QX
theorem itd_rng {G F : Hp} {lo : Int} {n : Nat} : ItD K (Itr lo n) G F (rngD lo n) := fun G' ρ σ H s hd => by
  have hl : (rngD lo n).length = n := by simp [rngD]
  rw [hl]
  refine ⟨fun i hi => hi, Nat.le_refl _, fun i x H' hi y => ?_⟩
  obtain ⟨e, ex⟩ := y
  subst e ex
  exact ⟨G', .int (lo + (i : Nat)), Sub.refl, hd, by simp [rngD, hi], rfl⟩
theorem li_r1 {ta : TA} {a : TDA} (ha : LA K E ta a) : LI K E (iRng1 ta) (iR1 a) := ⟨fun ρ Q QX ht G F σ H R hd k kx =>
  ha.run ρ _ QX ht G F σ H _ hd (fun G1 H1 as ρ1 vs s1 hd1 r1 q1 => by
    split at q1
    · cases r1 with
      | cons rd t =>
        cases t
        cases (show _ = V.int _ from rd)
        exact ⟨_, rfl, q1.1, q1.2.1, k G1 H1 _ ρ1 _ s1 hd1 (fun F' _ => itd_rng) q1.2.2⟩
    · exact q1.elim) kx⟩
theorem li_r2 {ta : TA} {a : TDA} (ha : LA K E ta a) : LI K E (iRng2 ta) (iR2 a) := ⟨fun ρ Q QX ht G F σ H R hd k kx =>
  ha.run ρ _ QX ht G F σ H _ hd (fun G1 H1 as ρ1 vs s1 hd1 r1 q1 => by
    split at q1
    · cases r1 with
      | cons rd t =>
        cases t with
        | cons rd2 t =>
          cases t
          cases (show _ = V.int _ from rd)
          cases (show _ = V.int _ from rd2)
          exact ⟨_, _, rfl, q1.1, k G1 H1 _ ρ1 _ s1 hd1 (fun F' _ => itd_rng) q1.2⟩
    · exact q1.elim) kx⟩
end
end Dl

namespace Dl
open PySem L2

/-! ### a list comprehension -/
def wipeE (ρ : Env) : List Nat → Env
  | [] => ρ
  | v :: vs => (wipeE ρ vs).set v none
def NX : XQ := fun _ _ => False
def LcG (ds : List D) (g : TGD) (t : TDT) (e : TDE) (vs : List Nat) (ρ1 : Dl.Env) (Q : T → Dl.Env → Prop) (_t : Tg Q := .mk) : Prop := ∃ I : Nat → List T → Env → Prop, I 0 [] (wipeE ρ1 vs) ∧
  (∀ i d acc ρ, ds[i]? = some d → I i acc ρ → g (.fz d) ρ (fun ρ2 => t ρ2 (fun b ρ3 => IfG b (e ρ3 (fun y ρ4 => acc.length < sizeLine ∧ I (i + 1) (acc ++ [y]) (wipeE ρ4 vs)) NX) (I (i + 1) acc (wipeE ρ3 vs))) NX) NX) ∧
  ∀ acc ρ, I ds.length acc ρ → Q (.ls acc) (wipeE ρ vs)
def dLc (it : TID) (g : TGD) (t : TDT) (e : TDE) (vs : List Nat) (ρ : Dl.Env) (Q : T → Dl.Env → Prop) (QX : XQ) : Prop := it ρ (fun ds ρ1 => LcG ds g t e vs ρ1 Q) QX
def dYes (ρ : Dl.Env) (Q : Bool → Dl.Env → Prop) (QX : XQ) : Prop := Q true ρ
section
variable {K : PySem.W.Frag} {E : EK} {G F H : Hp} {σ : St}
theorem RepE.wipe {ρ : Env} {O : Hp} (h : RepE K G ρ σ O) : ∀ vs, RepE K G (wipeE ρ vs) (wipe σ vs) O
  | [] => h
  | v :: vs => (h.wipe vs).setNone v none
theorem RepE.reslot : ∀ {ρ : Env} {σ σ' : St} {O : Hp} (i : Nat), RepE K G ρ σ O → σ'.length = σ.length → (∀ j, j ≠ i → σ'[j]? = σ[j]?) → RepE K G (ρ.set i none) σ' O
  | [], _, _, _, _, h, hl, _ => by cases h; exact List.length_eq_zero_iff.mp hl
  | none :: _, _, [], _, _, h, hl, _ => by obtain ⟨x, r, e, h⟩ := h; subst e; simp at hl
  | some _ :: _, _, [], _, _, h, hl, _ => by obtain ⟨x, r, A, B, e, _⟩ := h; subst e; simp at hl
  | none :: ρ, _, y :: σ', _, 0, h, hl, f => by
    obtain ⟨x, r, e, h⟩ := h; subst e
    have : σ' = r := List.ext_getElem? fun j => by simpa using f (j + 1) (by omega)
    subst this
    exact ⟨y, σ', rfl, h⟩
  | some _ :: ρ, _, y :: σ', _, 0, h, hl, f => by
    obtain ⟨x, r, A, B, e, z1, z2, dj, h1, h2⟩ := h; subst e
    have : σ' = r := List.ext_getElem? fun j => by simpa using f (j + 1) (by omega)
    subst this
    exact ⟨y, σ', rfl, h2.mono Sub.refl z2⟩
  | none :: ρ, _, y :: σ', _, i + 1, h, hl, f => by
    obtain ⟨x, r, e, h⟩ := h; subst e
    exact ⟨y, σ', rfl, RepE.reslot i h (by simpa using hl) fun j hj => by simpa using f (j + 1) (by omega)⟩
  | some _ :: ρ, _, y :: σ', _, i + 1, h, hl, f => by
    obtain ⟨x, r, A, B, e, z1, z2, dj, h1, h2⟩ := h; subst e
    have e0 : y = some x := by simpa using f 0 (by omega)
    subst e0
    exact ⟨x, σ', A, B, rfl, z1, z2, dj, h1, RepE.reslot i h2 (by simpa using hl) fun j hj => by simpa using f (j + 1) (by omega)⟩
theorem RepE.unwipe : ∀ {ρ : Env} {O : Hp} (vs : List Nat), RepE K G ρ (L2.wipe σ vs) O → RepE K G (wipeE ρ vs) σ O
  | _, _, [], h => h
  | ρ, O, v :: vs, h => by
    have h : RepE K G ρ ((L2.wipe σ vs).set v none) O := h
    have q := h.reslot (σ' := L2.wipe σ vs) v (by simp) fun j hj => by rw [List.getElem?_set_ne (Ne.symm hj)]
    have q2 := RepE.unwipe vs q
    have e : ∀ (vs : List Nat), wipeE (ρ.set v none) vs = (wipeE ρ vs).set v none := by
      intro vs
      induction vs with
      | nil => rfl
      | cons w ws ih =>
        unfold wipeE
        rw [ih]
        by_cases hw : v = w
        · subst hw; rfl
        · rw [List.set_comm _ _ hw]
    rw [e vs] at q2
    exact q2
theorem wipe_wipe (σ : St) (vs : List Nat) : wipe (wipe σ vs) vs = wipe σ vs := by
  have a : ∀ (ws : List Nat) (σ : St) (i : Nat), wipe (σ.set i none) ws = (wipe σ ws).set i none := by
    intro ws
    induction ws with
    | nil => intro σ i; rfl
    | cons w ws ih =>
      intro σ i
      unfold wipe
      rw [ih]
      by_cases hw : i = w
      · subst hw; rfl
      · rw [List.set_comm _ _ hw]
  induction vs with
  | nil => rfl
  | cons v vs ih =>
    show (wipe ((wipe σ vs).set v none) vs).set v none = (wipe σ vs).set v none
    rw [a, ih, set_twice]
theorem RepTs.append1 {t : T} {x : V} {O2 : Hp} (r : RepT K G t x O2) : ∀ {ts : List T} {xs : List V} {O1 : Hp}, RepTs K G ts xs O1 → Dj O1 O2 → RepTs K G (ts ++ [t]) (xs ++ [x]) (jn O1 O2)
  | [], _, _, h, d => by cases h; exact ⟨x, [], O2, emp, rfl, jn_r d, emp_sub, dj_emp, r, rfl⟩
  | _ :: _, _, _, h, d => by
    obtain ⟨y, ys, A, B, e, z1, z2, dj, h1, h2⟩ := h; subst e
    exact ⟨y, _, A, jn B O2, rfl, z1.trans jn_l, jn_sub (z2.trans jn_l) (jn_r d), jn_dj dj (d.left z1), h1, RepTs.append1 r h2 (d.left z2)⟩
/-- the new list at a grows by a value in hand -/
theorem HdT.grow {Ov : Hp} {a : Addr} {acc : List T} {y : T} {v : V} {ρ : Env} {G0 : Hp} (h : HdT K G (jn Ov F) y v ρ σ H) (r : RepT K G0 (.ls acc) (.ref a) Ov) (s : Sub G0 G) (d : Dj Ov F) :
    ∃ xs, H a = some (.lst xs) ∧ acc.length = xs.length ∧ HdT K G F (.ls (acc ++ [y])) (.ref a) ρ σ (upd H a (.lst (xs ++ [v]))) := by
  obtain ⟨b, xs, O', e, g, n, z, rr⟩ := r
  have e : a = b := V.ref.inj e
  subst e
  obtain ⟨Ow, O, p, dj, ry, rE⟩ := h
  have gF : (jn Ov F) a = some (.lst xs) := jn_l _ _ g
  have gH := p.f _ _ gF
  have nG : G a = none := by rcases p.gf a with q | q; exact q; (rw [gF] at q; cases q)
  have nO : (jn Ow O) a = none := by rcases p.of a with q | q; exact q; (rw [gF] at q; cases q)
  have nOw : Ow a = none := jn_l.none nO
  have nOO : O a = none := (jn_r dj).none nO
  have nF : F a = none := by rcases d a with q | q; (rw [g] at q; cases q); exact q
  refine ⟨xs, gH, rr.length, jn (upd Ov a (.lst (xs ++ [v]))) Ow, O, ⟨sub_upd p.g nG, ?_, sub_upd ((jn_r d).trans p.f) nF, ?_, p.gf.right (jn_r d), ?_⟩, ?_, ?_, rE⟩
  · refine jn_sub (jn_sub (upd_sub (jn_l.trans p.f)) (sub_upd (jn_l.trans p.o) nOw)) (sub_upd ((jn_r dj).trans p.o) nOO)
  · refine jn_dj (jn_dj ((dj_upd (p.gf.right jn_l).symm nG).symm) (p.go.right jn_l)) (p.go.right (jn_r dj))
  · refine dj_jn (dj_jn (dj_upd d nF) ((p.of.left jn_l).right (jn_r d))) ((p.of.left (jn_r dj)).right (jn_r d))
  · exact dj_jn (dj_upd ((p.of.left (jn_r dj)).right jn_l).symm nOO) dj
  · have d1 : Dj Ov Ow := ((p.of.left jn_l).right jn_l).symm
    have rr' : RepTs K G acc xs O' := rr.mono s Sub.refl
    refine ⟨a, xs ++ [v], jn O' Ow, rfl, jn_l _ _ upd_same, jn_none n nOw, jn_sub ?_ (jn_r (dj_upd d1 nOw)), RepTs.append1 ry rr' (d1.left z)⟩
    exact (sub_upd z n).trans jn_l
theorem le_lc {wi : TI} {it : TID} {tg : TG} {g : TGD} {tt : TT} {t : TDT} {te : TE} {e : TDE} {vs : List Nat} (hi : LI K E wi it)
    (hg : ∀ σ0, LG K (fun _ => E0) (fun σ => wipe σ vs = wipe σ0 vs) tg g) (ht : LT K (fun _ => E0) tt t) (he : LE K (fun _ => E0) te e) : LE K E (tLc wi tg tt te vs) (dLc it g t e vs) := ⟨fun ρ Q QX h G F σ H R hd k kx => by
  have nx : ∀ {G F σ}, OnX K (fun _ => E0) G F σ NX := fun {G F σ} _ _ _ _ _ _ _ _ _ z => z.elim
  refine hi.run ρ _ _ h G F σ H _ hd (fun G1 H1 ds ρ1 J s1 hd1 hj q1 => ?_) kx
  obtain ⟨I, h0, step, fin⟩ := q1
  intro D nD
  have hw : Hd K G1 F (wipeE ρ1 vs) (wipe σ vs) H1 := let ⟨O, p, r⟩ := hd1; ⟨O, p, r.wipe vs⟩
  refine ⟨fun i m H => m = ds.length - i ∧ i ≤ ds.length ∧ ∃ G' acc ρ, Sub G1 G' ∧ HdT K G' F (.ls acc) (.ref D) ρ (wipe σ vs) H ∧ I i acc ρ, ⟨ds.length, by simp, Nat.zero_le _, G1, [], _, Sub.refl, hw.newL (ds := []) nD rfl, h0⟩, ?_⟩
  rintro i m H2 ⟨em, hle, G2, acc, ρ2, s2, hd2, i2⟩
  obtain ⟨Ov, rO, dO, hd2'⟩ := hd2.frame
  obtain ⟨go, stop, yld⟩ := hj (jn Ov F) (jn_r dO) G2 ρ2 (wipe σ vs) H2 s2 hd2'
  by_cases hlt : i < ds.length
  · refine .inr ⟨go i hlt, fun H => ∃ G' acc ρ, Sub G1 G' ∧ HdT K G' F (.ls acc) (.ref D) ρ (wipe σ vs) H ∧ I (i + 1) acc ρ, fun H' z => ⟨ds.length - (i + 1), by omega, rfl, hlt, z⟩, fun x H3 y => ?_⟩
    obtain ⟨G3, d, s3, hd3, ed, rd⟩ := yld i x H3 hlt y
    refine (hg σ).run (.fz d) ρ2 _ _ (step i d acc ρ2 ed i2) G3 (jn Ov F) (wipe σ vs) H3 x _ (hd3.fz rd) (wipe_wipe σ vs) (fun G4 H4 σ4 ρ4 s4 hd4 p4 q4 => ?_) nx
    refine ⟨p4, ht.run ρ4 _ _ q4 G4 (jn Ov F) σ4 H4 _ hd4 (fun G5 H5 b ρ5 s5 hd5 q5 => ?_) nx⟩
    cases b with
    | true =>
      replace q5 := ifG_tt q5
      rw [if_pos rfl]
      refine he.run ρ5 _ _ q5 G5 (jn Ov F) σ4 H5 _ hd5 (fun G6 H6 yT ρ6 v s6 hd6 q6 => ?_) nx
      obtain ⟨xs, gx, lx, hg6⟩ := hd6.grow rO (s3.trans (s4.trans (s5.trans s6))) dO
      refine ⟨xs, gx, by rw [← lx]; exact q6.1, G6, acc ++ [yT], wipeE ρ6 vs, s2.trans (s3.trans (s4.trans (s5.trans s6))), ?_, q6.2⟩
      obtain ⟨Ow, O, p, dj, r1, r2⟩ := hg6
      exact ⟨Ow, O, p, dj, r1, by rw [← p4]; exact r2.wipe vs⟩
    | false =>
      replace q5 := ifG_ff q5
      rw [if_neg Bool.false_ne_true]
      refine ⟨G5, acc, wipeE ρ5 vs, s2.trans (s3.trans (s4.trans s5)), ?_, q5⟩
      obtain ⟨Ow, O, p, dj, r1, r2⟩ := hd5.unframe (rO.mono (s3.trans (s4.trans s5)) Sub.refl) dO
      exact ⟨Ow, O, p, dj, r1, by rw [← p4]; exact r2.wipe vs⟩
  · have e : i = ds.length := by omega
    subst e
    refine .inl ⟨stop, k G2 H2 _ (wipeE ρ2 vs) _ (s1.trans s2) ?_ (fin acc ρ2 i2)⟩
    obtain ⟨Ow, O, p, dj, r1, r2⟩ := hd2
    exact ⟨Ow, O, p, dj, r1, r2.unwipe vs⟩⟩
end

/-! ### calls -/
/-- a contract: of trees (the arguments), what is wanted of the value and of the lent trees behind, what of an exception -/
abbrev Ct := List T → (T → List (Option T) → Prop) → (XD → List (Option T) → Prop) → Prop
def spOf (K : PySem.W.Frag) (c : Ct) : Sp := fun vs H Q E => ∃ ts QD QX, c ts QD QX ∧ ∃ G O F, Spl H G O F ∧ RepTs K G ts vs O ∧
  (∀ G' H' r v ts', Sub G G' → HdT K G' F r v ts' (vs.map some) H' → QD r ts' → Q v H') ∧
  (∀ G' H' x ts' c da, Sub G G' → Hd K G' F ts' (vs.map some) H' → RepX K G' x c da → QX x ts' → E c da H')
def ext1 : List Arg → Env → Option (List T × Env)
  | [], ρ => some ([], ρ)
  | .d d :: r, ρ => match ext1 r ρ with
    | some (ts, ρ') => some (.fz d :: ts, ρ')
    | none => none
  | .io i :: r, ρ => match slot ρ i with
    | none => none
    | some τ => match ext1 r (ρ.set i none) with
      | some (ts, ρ') => some (τ :: ts, ρ')
      | none => none
def back1 : List Arg → List (Option T) → Env → Env
  | .io i :: r, t :: ts, ρ => (back1 r ts ρ).set i t
  | .d _ :: r, _ :: ts, ρ => back1 r ts ρ
  | _, _, ρ => ρ
/-- a call's question -/
def CallG (c : Ct) (ts : List T) (k : T → List (Option T) → Prop) (kx : XD → List (Option T) → Prop) (_t : Tg k := .mk) (_u : Tg kx := .mk) : Prop := c ts k kx
def dCall (c : Ct) (a : TDA) (dds : List D) (ρ : Dl.Env) (Q : T → Dl.Env → Prop) (QX : XQ) : Prop := a ρ (fun as ρ1 => match ext1 as ρ1 with
  | some (ts, ρ0) => CallG c (ts ++ fzs dds) (fun r ts' => Q r (back1 as ts' ρ0)) (fun x ts' => QX x (back1 as ts' ρ0))
  | none => False) QX
section
variable {K : PySem.W.Frag} {E : EK} {G G' F H : Hp} {σ : St}
theorem ext1_ok : ∀ {as : List Arg} {ρ ρ' : Env} {ts : List T} {vs : List V} {O : Hp}, ext1 as ρ = some (ts, ρ') → RepE K G ρ σ O → Paired (RepA K G σ) as vs → ∃ O1 O2, Sub O1 O ∧ Sub O2 O ∧ Dj O1 O2 ∧ RepTs K G ts vs O1 ∧ RepE K G ρ' σ O2
  | [], _, _, _, _, O, e, h, .nil => by cases e; exact ⟨emp, O, emp_sub, Sub.refl, emp_dj, rfl, h⟩
  | .d d :: r, _, _, _, _, O, e, h, .cons ra t => by
    unfold ext1 at e
    split at e
    · rename_i ts ρ' q
      cases e
      obtain ⟨A, B, z1, z2, dj, r1, r2⟩ := ext1_ok q h t
      exact ⟨A, B, z1, z2, dj, ⟨_, _, emp, A, rfl, emp_sub, Sub.refl, emp_dj, ra, r1⟩, r2⟩
    · cases e
  | .io i :: r, ρ, _, _, _, O, e, h, .cons ra t => by
    unfold ext1 at e
    split at e
    · cases e
    · rename_i τ eτ
      split at e
      · rename_i ts ρ' q
        cases e
        obtain ⟨v, O1, O2, q1, y1, y2, dk, rt, h2⟩ := h.focus (slot_eq eτ)
        have ev := Option.some.inj (Option.some.inj (q1.symm.trans ra))
        subst ev
        obtain ⟨A, B, z1, z2, dj, r1, r2⟩ := ext1_ok q h2 t
        exact ⟨jn O1 A, B, jn_sub y1 (z1.trans y2), z2.trans y2, dj_jn (dk.right z2) dj, ⟨_, _, O1, A, rfl, jn_l, jn_r (dk.right z1), dk.right z1, rt, r1⟩, r2⟩
      · cases e
theorem ext1_len : ∀ {as : List Arg} {ρ ρ' : Env} {ts : List T}, ext1 as ρ = some (ts, ρ') → ρ'.length = ρ.length ∧ ∀ i, Arg.io i ∈ as → i < ρ.length
  | [], _, _, _, e => by cases e; exact ⟨rfl, fun i h => nomatch h⟩
  | .d d :: r, _, _, _, e => by
    unfold ext1 at e
    split at e
    · rename_i ts ρ' q
      cases e
      obtain ⟨a, b⟩ := ext1_len q
      exact ⟨a, fun i h => b i (by simpa using h)⟩
    · cases e
  | .io i :: r, ρ, _, _, e => by
    unfold ext1 at e
    split at e
    · cases e
    · rename_i τ eτ
      split at e
      · rename_i ts ρ' q
        cases e
        obtain ⟨a, b⟩ := ext1_len q
        refine ⟨by rw [a]; simp, fun j h => ?_⟩
        rcases List.mem_cons.mp h with z | z
        · cases z; exact slot_lt eτ
        · simpa using b j z
      · cases e
theorem back1_len : ∀ {as : List Arg} {ts : List (Option T)} {ρ : Env}, (back1 as ts ρ).length = ρ.length
  | [], _, _ => by unfold back1; rfl
  | .d _ :: r, [], _ => rfl
  | .io _ :: r, [], _ => rfl
  | .d _ :: r, t :: ts, ρ => by unfold back1; exact back1_len
  | .io i :: r, t :: ts, ρ => by unfold back1; rw [List.length_set]; exact back1_len
theorem back1_ok : ∀ {as : List Arg} {ρ : Env} {ts : List (Option T)} {vs ws : List V} {O1 O2 : Hp}, RepE K G ts ((vs ++ ws).map some) O1 → RepE K G ρ σ O2 → Dj O1 O2 → Paired (RepA K G' σ) as vs → (∀ i, Arg.io i ∈ as → i < ρ.length) →
    RepE K G (back1 as ts ρ) σ (jn O1 O2)
  | [], _, _, _, _, _, _, h1, h2, dj, _, _ => by unfold back1; exact h2.mono Sub.refl (jn_r dj)
  | .d _ :: r, _, [], _, _, _, _, h1, h2, dj, _, _ => by unfold back1; exact h2.mono Sub.refl (jn_r dj)
  | .io _ :: r, _, [], _, _, _, _, h1, h2, dj, _, _ => by unfold back1; exact h2.mono Sub.refl (jn_r dj)
  | .d _ :: r, ρ, none :: ts, _ :: vs, ws, O1, O2, h1, h2, dj, .cons ra t, hi => by
    obtain ⟨x, q, e, h1⟩ := h1
    cases e
    unfold back1
    exact back1_ok h1 h2 dj t fun i h => hi i (List.mem_cons_of_mem _ h)
  | .d _ :: r, ρ, some _ :: ts, _ :: vs, ws, O1, O2, h1, h2, dj, .cons ra t, hi => by
    obtain ⟨x, q, A, B, e, z1, z2, dk, h1, h3⟩ := h1
    cases e
    unfold back1
    exact (back1_ok h3 h2 (dj.left z2) t fun i h => hi i (List.mem_cons_of_mem _ h)).mono Sub.refl (jn_sub (z2.trans jn_l) (jn_r dj))
  | .io i :: r, ρ, none :: ts, _ :: vs, ws, O1, O2, h1, h2, dj, .cons ra t, hi => by
    obtain ⟨x, q, e, h1⟩ := h1
    cases e
    unfold back1
    exact (back1_ok h1 h2 dj t fun i h => hi i (List.mem_cons_of_mem _ h)).drop i
  | .io i :: r, ρ, some _ :: ts, _ :: vs, ws, O1, O2, h1, h2, dj, .cons ra t, hi => by
    obtain ⟨x, q, A, B, e, z1, z2, dk, h1, h3⟩ := h1
    cases e
    unfold back1
    have b := (back1_ok h3 h2 (dj.left z2) t fun i h => hi i (List.mem_cons_of_mem _ h)).drop i
    have lt : i < (back1 r ts ρ).length := by rw [back1_len]; exact hi i List.mem_cons_self
    have p := b.put lt h1 (jn_dj dk (dj.left z1))
    rw [set_self' (show σ[i]? = some (some _) from ra)] at p
    exact p.mono Sub.refl (jn_sub (z1.trans jn_l) (jn_sub (z2.trans jn_l) (jn_r dj)))
theorem call_sound {c : Ct} {as : List Arg} {ρ ρ0 : Env} {ts : List T} {vs dvs : List V} {dds : List D} {Q : T → Env → Prop} {QX : XQ} {R : VK} {E : XK}
    (e : ext1 as ρ = some (ts, ρ0)) (hc : c (ts ++ fzs dds) (fun r ts' => Q r (back1 as ts' ρ0)) (fun x ts' => QX x (back1 as ts' ρ0))) (hd : Hd K G F ρ σ H) (ra : Paired (RepA K G σ) as vs) (rd : Reps K G dds dvs)
    (k : ∀ G' H' τ ρ' v, Sub G G' → HdT K G' F τ v ρ' σ H' → Q τ ρ' → R v H') (kx : ∀ G' H' x ρ' c da, Sub G G' → Hd K G' F ρ' σ H' → RepX K G' x c da → QX x ρ' → E c da H') : spOf K c (vs ++ dvs) H R E := by
  obtain ⟨O, p, h⟩ := hd
  obtain ⟨O1, O2, z1, z2, dj, rt, rE⟩ := ext1_ok e h ra
  obtain ⟨el, hi⟩ := ext1_len e
  have hi' : ∀ i, Arg.io i ∈ as → i < ρ0.length := fun i q => by rw [el]; exact hi i q
  have d2 : Dj O2 F := p.of.left z2
  refine ⟨ts ++ fzs dds, _, _, hc, G, O1, jn O2 F, ⟨p.g, z1.trans p.o, jn_sub (z2.trans p.o) p.f, p.go.right z1, jn_dj (p.go.right z2) p.gf, jn_dj dj (p.of.left z1)⟩, rt.appendF rd, ?_, ?_⟩
  · rintro G' H' r v ts' s ⟨Ov, Ot, q, dv, r1, r2⟩ qq
    have dt : Dj Ot O2 := (q.of.left (jn_r dv)).right jn_l
    refine k G' H' r _ v s ⟨Ov, jn Ot O2, ⟨q.g, ?_, (jn_r d2).trans q.f, ?_, q.gf.right (jn_r d2), ?_⟩, ?_, r1, ?_⟩ qq
    · exact jn_sub (jn_l.trans q.o) (jn_sub ((jn_r dv).trans q.o) (jn_l.trans q.f))
    · exact jn_dj (q.go.right jn_l) (jn_dj (q.go.right (jn_r dv)) (q.gf.right jn_l))
    · exact dj_jn ((q.of.left jn_l).right (jn_r d2)) (dj_jn ((q.of.left (jn_r dv)).right (jn_r d2)) d2)
    · exact jn_dj dv ((q.of.left jn_l).right jn_l)
    · exact back1_ok r2 (rE.mono s Sub.refl) dt ra hi'
  · rintro G' H' x ts' cc da s ⟨Ot, q, r2⟩ rx qq
    have dt : Dj Ot O2 := q.of.right jn_l
    refine kx G' H' x _ cc da s ⟨jn Ot O2, ⟨q.g, ?_, (jn_r d2).trans q.f, ?_, q.gf.right (jn_r d2), ?_⟩, ?_⟩ rx qq
    · exact jn_sub q.o (jn_l.trans q.f)
    · exact jn_dj q.go (q.gf.right jn_l)
    · exact dj_jn (q.of.right (jn_r d2)) d2
    · exact back1_ok r2 (rE.mono s Sub.refl) dt ra hi'
theorem le_call {c : Ct} {ta : TA} {a : TDA} {dvs : List V} {dds : List D} {E0' : XK} (ha : LA K (fun _ => E0') ta a) (rd : ∀ G, Reps K G dds dvs) : LE K (fun _ => E0') (tCall (spOf K c) dvs E0' ta) (dCall c a dds) := ⟨fun ρ Q QX ht G F σ H R hd k kx =>
  ha.run ρ _ QX ht G F σ H _ hd (fun G1 H1 as ρ1 vs s1 hd1 r1 q1 => by
    split at q1
    · rename_i ts ρ0 e
      exact call_sound e q1 hd1 r1 (rd G1) (fun G' H' τ ρ' v s => k G' H' τ ρ' v (s1.trans s)) (fun G' H' x ρ' c da s => kx G' H' x ρ' c da (s1.trans s))
    · exact q1.elim) kx⟩
end

/-! ### a def keeps its contract -/
def ioOf : List Bool → Env → List (Option T)
  | b :: bs, t :: ρ => (if b = true then t else none) :: ioOf bs ρ
  | _, _ => []
def startE : Nat → List T → Env
  | 0, ts => ts.map some
  | n + 1, t :: ts => some t :: startE n ts
  | n + 1, [] => none :: startE n []
theorem startE_eq : ∀ (n : Nat) (ts : List T), startE n ts = ts.map some ++ List.replicate (n - ts.length) none
  | 0, ts => by unfold startE; simp
  | n + 1, t :: ts => by unfold startE; rw [startE_eq n ts]; simp
  | n + 1, [] => by unfold startE; rw [startE_eq n []]; simp [List.replicate_succ]
section
variable {K : PySem.W.Frag} {E : EK} {G F H : Hp}
theorem RepE.sub : ∀ {io : List Bool} {ρ : Env} {σ : St} {vs : List V} {O : Hp}, RepE K G ρ σ O → io.length = vs.length → vs.length ≤ σ.length → (∀ (j : Nat) (v : V), io[j]? = some true → vs[j]? = some v → σ[j]? = some (some v)) → RepE K G (ioOf io ρ) (vs.map some) O
  | [], _, _, [], _, _, _, _, _ => by unfold ioOf; rfl
  | [], _, _, _ :: _, _, _, h, _, _ => by simp at h
  | _ :: _, _, _, [], _, _, h, _, _ => by simp at h
  | _ :: _, [], _, _ :: _, _, h, _, hl, _ => by cases h; simp at hl
  | b :: io, none :: ρ, _, v :: vs, _, h, h1, h2, f => by
    obtain ⟨x, r, e, h⟩ := h; subst e
    have ih := RepE.sub h (io := io) (vs := vs) (by simpa using h1) (by simpa using h2) fun j w a b => by simpa using f (j + 1) w (by simpa using a) (by simpa using b)
    unfold ioOf
    cases b <;> exact ⟨_, _, rfl, ih⟩
  | b :: io, some t :: ρ, _, v :: vs, _, h, h1, h2, f => by
    obtain ⟨x, r, A, B, e, z1, z2, dj, r1, h⟩ := h; subst e
    have ih := RepE.sub h (io := io) (vs := vs) (by simpa using h1) (by simpa using h2) fun j w a b => by simpa using f (j + 1) w (by simpa using a) (by simpa using b)
    unfold ioOf
    cases b with
    | true =>
      have e0 : x = v := by simpa using f 0 v rfl rfl
      subst e0
      exact ⟨_, _, A, B, rfl, z1, z2, dj, r1, ih⟩
    | false => exact ⟨_, _, rfl, ih.mono Sub.refl z2⟩
theorem start_rep : ∀ {ts : List T} {vs : List V} {O : Hp} (m : Nat), RepTs K G ts vs O → RepE K G (ts.map some ++ List.replicate m none) (vs.map some ++ List.replicate m none) O
  | [], _, _, m, h => by
    cases h
    induction m with
    | zero => rfl
    | succ m ih => exact ⟨none, _, rfl, ih⟩
  | t :: ts, _, _, m, h => by
    obtain ⟨x, r, A, B, e, z1, z2, dj, h1, h2⟩ := h; subst e
    exact ⟨x, _, A, B, rfl, z1, z2, dj, h1, start_rep m h2⟩
/-- the ends of a def's body -/
def endsOf (io : List Bool) (QD : T → List (Option T) → Prop) (QX : XD → List (Option T) → Prop) : EndsD :=
  ⟨fun ρ => QD (.fz .non) (ioOf io ρ), fun τ ρ => QD τ (ioOf io ρ), fun _ => False, fun _ => False, fun x ρ => QX x (ioOf io ρ)⟩
theorem body_sound {c : Ct} {io : List Bool} {N : List Str} {vs : List V} {Q : VK} {E : XK} {te : TS} {t : TSD} (hlen : vs.length = io.length) (hN : io.length ≤ N.length) (hs : spOf K c vs H Q E) (L : LS K (fun _ => E) (PinOk io vs) te t)
    (hb : ∀ ts QD QX, ts.length = io.length → c ts QD QX → t (endsOf io QD QX) (startE N.length ts)) : te { nx := fun _ H' => Q .non H', rt := Q } (L2.start N vs) H := by
  obtain ⟨ts, QD, QX, hc, G, O, F, p, rt, kq, kx⟩ := hs
  have hl := rt.length
  have hstart : RepE K G (startE N.length ts) (L2.start N vs) O := by
    rw [startE_eq]
    unfold L2.start
    rw [hl]
    exact start_rep _ rt
  have hlt : vs.length ≤ (L2.start N vs).length := by
    unfold L2.start
    rw [List.length_append, List.length_map]
    omega
  have pin0 : PinOk io vs (L2.start N vs) := ⟨hlt, fun j v _ h => by
    unfold L2.start
    rw [List.getElem?_append_left (by rw [List.length_map]; exact (List.getElem?_eq_some_iff.mp h).1), List.getElem?_map, h]
    rfl⟩
  have fin : ∀ {G' H' σ' ρ'}, Hd K G' F ρ' σ' H' → PinOk io vs σ' → Hd K G' F (ioOf io ρ') (vs.map some) H' := fun {G' H' σ' ρ'} ⟨O, q, r⟩ pn => ⟨O, q, r.sub hlen.symm pn.1 pn.2⟩
  have finT : ∀ {G' H' σ' ρ' τ v}, HdT K G' F τ v ρ' σ' H' → PinOk io vs σ' → HdT K G' F τ v (ioOf io ρ') (vs.map some) H' := fun {G' H' σ' ρ' τ v} ⟨Ov, O, q, dj, r1, r⟩ pn => ⟨Ov, O, q, dj, r1, r.sub hlen.symm pn.1 pn.2⟩
  refine L.run _ _ (hb ts QD QX (by rw [hl, hlen]) hc) G F _ H _ ⟨O, p, hstart⟩ pin0 ⟨fun G' H' σ' ρ' s h pn q => ?_, fun G' H' σ' ρ' τ v s h pn q => ?_, fun _ _ _ _ _ _ _ z => z.elim, fun _ _ _ _ _ _ _ z => z.elim, fun G' σ' s pn G2 H2 x ρ2 c da s2 h2 rx q => ?_⟩
  · exact kq G' H' _ _ _ s ((fin h pn).fz (d := .non) rfl) q
  · exact kq G' H' τ v _ s (finT h pn) q
  · exact kx G2 H2 x _ c da (s.trans s2) (fin h2 pn) rx q
end
end Dl

namespace Dl
open PySem L2 PySem.Spec PyProof.Rows

/-- every c-th from i on -/
def pick {α : Type} (xs : List α) (i c : Nat) : List α := (List.range xs.length).filterMap fun m => xs[i + m * c]?
theorem range_cut {α : Type} {g : Nat → Option α} {k n : Nat} (hk : k ≤ n) (h : ∀ m, k ≤ m → g m = none) : (List.range k).filterMap g = (List.range n).filterMap g := by
  obtain ⟨d, rfl⟩ : ∃ d, n = k + d := ⟨n - k, by omega⟩
  rw [List.range_add, List.filterMap_append]
  have : List.filterMap g (List.map (fun x => k + x) (List.range d)) = [] := by
    rw [List.filterMap_eq_nil_iff]
    intro a ha
    obtain ⟨b, _, rfl⟩ := List.mem_map.mp ha
    exact h _ (Nat.le_add_right _ _)
  rw [this, List.append_nil]
theorem Vals.pick {xs : List V} {us : List Value} (r : Vals xs us) (i c : Nat) : Vals (pick xs i c) (pick us i c) := by
  unfold Dl.pick
  rw [← r.length]
  generalize List.range xs.length = l
  induction l with
  | nil => exact .nil
  | cons m l ih =>
    rw [List.filterMap_cons, List.filterMap_cons]
    cases e : xs[i + m * c]? with
    | none =>
      rw [r.none_of e]
      exact ih
    | some x =>
      obtain ⟨u, hu, ru⟩ := r.get e
      rw [hu]
      exact .cons ru ih
theorem Reps.pick {K : PySem.W.Frag} {G : Hp} {ds : List D} {xs : List V} (r : Reps K G ds xs) (i c : Nat) : Reps K G (pick ds i c) (pick xs i c) := by
  unfold Dl.pick
  rw [r.length]
  generalize List.range xs.length = l
  induction l with
  | nil => rfl
  | cons m l ih =>
    rw [List.filterMap_cons, List.filterMap_cons]
    cases e : ds[i + m * c]? with
    | none =>
      have : xs[i + m * c]? = none := by
        rw [List.getElem?_eq_none_iff] at e ⊢
        rw [← r.length]; exact e
      rw [this]
      exact ih
    | some d =>
      obtain ⟨x, hx, rx⟩ := r.get e
      rw [hx]
      exact .cons rx ih
theorem pick_length {α : Type} (xs : List α) (i c : Nat) : (pick xs i c).length ≤ xs.length := by
  unfold pick
  exact Nat.le_trans (List.length_filterMap_le _ _) (by rw [List.length_range]; exact Nat.le_refl _)

theorem bounds_step (lo : Option Int) (c n : Nat) (hc : 0 < c) : sliceBounds lo none (some (c : Int)) n = (((HT.sIx n 0 lo : Nat) : Int), (n : Int), (c : Int)) := by
  have h1 : (c : Int) > 0 := by omega
  unfold sliceBounds
  simp only [Option.getD_some, h1, if_true]
  cases lo with
  | none => rfl
  | some v =>
    refine Prod.ext ?_ rfl
    show max 0 (min (if v < 0 then v + (n : Int) else v) (n : Int)) = (((if v < 0 then (v + (n : Int)).toNat else min v.toNat n) : Nat) : Int)
    by_cases hv : v < 0
    · simp only [if_pos hv]; omega
    · simp only [if_neg hv]; omega
theorem count_step {i n c : Nat} (hc : 0 < c) : ∃ k : Nat, (if (i : Int) < (n : Int) then ((n : Int) - i + c - 1) / c else 0).toNat = k ∧ k ≤ n ∧ ∀ m, k ≤ m → n ≤ i + m * c := by
  refine ⟨_, rfl, ?_⟩
  by_cases h : (i : Int) < (n : Int)
  · rw [if_pos h]
    have e : ((n : Int) - i + c - 1) / c = (((n - i + c - 1) / c : Nat) : Int) := by
      rw [show (n : Int) - i + c - 1 = ((n - i + c - 1 : Nat) : Int) by omega]
      rfl
    rw [e, Int.toNat_natCast]
    constructor
    · rw [Nat.div_le_iff_le_mul_add_pred hc]
      have : n * 1 ≤ c * n := by rw [Nat.mul_comm c n]; exact Nat.mul_le_mul_left n hc
      omega
    · intro m hm
      have h2 := (Nat.div_lt_iff_lt_mul hc).mp (Nat.lt_succ_of_le hm)
      have e3 : (m + 1) * c = m * c + c := by rw [Nat.add_mul, Nat.one_mul]
      rw [Nat.succ_eq_add_one, e3] at h2
      omega
  · rw [if_neg h]
    refine ⟨Nat.zero_le _, fun m _ => ?_⟩
    have := Nat.zero_le (m * c)
    omega
theorem slicePick_step (us : List Value) (lo : Option Int) (c : Nat) (hc : 0 < c) : slicePick us.toArray lo none (some (c : Int)) = (pick us (HT.sIx us.length 0 lo) c).toArray := by
  unfold slicePick
  rw [List.size_toArray, bounds_step lo c us.length hc]
  show (List.filterMap _ (sliceRange ((HT.sIx us.length 0 lo : Nat) : Int) (us.length : Int) (c : Int))).toArray = _
  unfold sliceRange
  have h1 : (c : Int) > 0 := by omega
  simp only [h1, if_true]
  obtain ⟨k, ek, hk, hm⟩ := count_step (i := HT.sIx us.length 0 lo) (n := us.length) hc
  rw [ek, List.filterMap_map]
  unfold pick
  congr 1
  have e : ((fun x => us.toArray[x]?) ∘ fun (k : Nat) => (((HT.sIx us.length 0 lo : Nat) : Int) + (c : Int) * (k : Int)).toNat) = fun m => us[HT.sIx us.length 0 lo + m * c]? := by
    funext m
    have : (((HT.sIx us.length 0 lo : Nat) : Int) + (c : Int) * (m : Int)).toNat = HT.sIx us.length 0 lo + m * c := by
      rw [← Int.natCast_mul, ← Int.natCast_add, Int.toNat_natCast, Nat.mul_comm]
    show us.toArray[(((HT.sIx us.length 0 lo : Nat) : Int) + (c : Int) * (m : Int)).toNat]? = _
    rw [this]; simp
  rw [e]
  exact range_cut hk fun m h => List.getElem?_eq_none_iff.mpr (hm m h)
theorem places_step {i n c : Nat} (hc : 0 < c) : ∃ k : Nat, Builtin.Slice.slicePlaces (i : Int) (n : Int) (c : Int) = k ∧ k ≤ n ∧ ∀ m, k ≤ m → n ≤ i + m * c := by
  obtain ⟨k, ek, hk⟩ := count_step (i := i) (n := n) hc
  refine ⟨k, ?_, hk⟩
  rw [← ek]
  unfold Builtin.Slice.slicePlaces
  have h1 : (c : Int) > 0 := by omega
  simp only [h1, if_true]
  split
  · congr 1
    rw [show (n : Int) - i + c - 1 = (n - i - 1) + 1 * c by omega, Int.add_mul_ediv_right _ _ (by omega)]
  · rfl
section
variable {prog : Program} {w : World} {A : Around} {E : Value → Shared → Prop} {s : Shared}
theorem sliceApplied_step {sl : Addr} {vl vs : Value} {lo : Option Int} {n c : Nat} {Q : Int × Int × Nat → Shared → Prop} (hs : s.heap.IsSliceOf sl vl .none vs) (pl : IsPart vl lo) (ps : IsPart vs (some (c : Int))) (hc : 0 < c)
    (h : Q (((HT.sIx n 0 lo : Nat) : Int), (c : Int), Builtin.Slice.slicePlaces ((HT.sIx n 0 lo : Nat) : Int) (n : Int) (c : Int)) s) : wpAny (model prog w) A (Builtin.Slice.sliceApplied (.ref sl) (pure (n : Int))) Q E s := by
  obtain ⟨os, hos, hcs, hds⟩ := id hs
  unfold Builtin.Slice.sliceApplied Builtin.Slice.sliceFields
  refine wpAny_bind (wpAny_bind (wpAny_field hos hds (x := vl) rfl (wpAny_bind (wpAny_field hos hds (x := .none) rfl (wpAny_bind (wpAny_field hos hds (x := vs) rfl (wpAny_pure ?_)))))))
  refine wpAny_bind (HT.slicePart_ ps ?_)
  have hz : ¬ (((c : Int) == 0) = true) := by simp; omega
  show wpAny _ _ (if ((c : Int) == 0) = true then _ else _) _ _ s
  rw [if_neg hz]
  refine wpAny_bind (HT.slicePart_ pl (wpAny_bind (slicePart_none (wpAny_bind (wpAny_pure ?_)))))
  have e : Builtin.Slice.sliceAdjust lo none (c : Int) (n : Int) = (((HT.sIx n 0 lo : Nat) : Int), (n : Int)) := by
    have h1 : ¬ ((c : Int) < 0) := by omega
    unfold Builtin.Slice.sliceAdjust
    simp only [h1, if_false]
    refine Prod.ext ?_ rfl
    cases lo with
    | none => rfl
    | some v => exact HT.clip_eq v n 0
  show wpAny _ _ (match Builtin.Slice.sliceAdjust lo none (c : Int) (n : Int) with | (lo, hi) => pure (lo, (c : Int), Builtin.Slice.slicePlaces lo hi (c : Int))) _ _ s
  rw [e]
  exact wpAny_pure h
theorem getItem_tuple_step {t sl : Addr} {us : List Value} {vl vs : Value} {lo : Option Int} {c : Nat} {Q : Value → Shared → Prop} (ht : IsTup s.heap t us.toArray) (hs : s.heap.IsSliceOf sl vl .none vs) (pl : IsPart vl lo) (ps : IsPart vs (some (c : Int)))
    (hc : 1 < c) (h : Q (.ref s.heap.objs.size) { s with heap := s.heap.push { cls := .type "tuple", data := .seq (pick us (HT.sIx us.length 0 lo) c).toArray } })
    (hsz : us.length ≤ sizeLine) : wpAny (model prog w) A (getItem (.ref t) (.ref sl)) Q E s := by
  have htake : sizeOk (.seq (pick us (HT.sIx us.length 0 lo) c).toArray) := by
    show (pick us (HT.sIx us.length 0 lo) c).toArray.size ≤ sizeLine
    rw [List.size_toArray]
    exact Nat.le_trans (pick_length _ _ _) hsz
  obtain ⟨os, hos, hcs, hds⟩ := id hs
  have hTs : s.TypeIs (.ref sl) "slice" := ⟨os, hos, hcs⟩
  unfold getItem
  try with_reducible refine wpAny_holding ?_
  first | refine wpAny_bind (wpAny_pure ?_) | skip
  refine wpAny_bind (wpAny_sequenceKey ht.typeIs (by decide) ?_)
  refine wpAny_bind (wpAny_callSpecial?_slot (name := Str.ofString "__getitem__") ht.typeIs PyProof.Rows.slot_tuple_getitem
    (wpAny_call_entry PyProof.Rows.slot_tuple_getitem ht.typeIs entry_tuple_getitem ?_ (args_tuple_getitem _ _)))
  show wpAny _ _ (Builtin.Tuple.tupleItemsOf (.ref t) >>= _) _ _ s
  refine wpAny_bind (tupleItemsOf_ ht ?_)
  refine wpAny_bind (wpAny_typeOf hTs ?_)
  rw [if_pos (by decide), List.size_toArray]
  refine wpAny_bind (sliceApplied_step hs pl ps (by omega) ?_)
  have hno : ¬ ((((HT.sIx us.length 0 lo : Nat) : Int) == 0 && (c : Int) == 1 && Builtin.Slice.slicePlaces ((HT.sIx us.length 0 lo : Nat) : Int) (us.length : Int) (c : Int) == us.length) = true) := by
    intro q
    rw [Bool.and_eq_true, Bool.and_eq_true] at q
    have q1 : (c : Int) = 1 := eq_of_beq q.1.2
    omega
  show wpAny _ _ (if (((HT.sIx us.length 0 lo : Nat) : Int) == 0 && (c : Int) == 1 && Builtin.Slice.slicePlaces ((HT.sIx us.length 0 lo : Nat) : Int) (us.length : Int) (c : Int) == us.length) = true then _ else _) _ _ s
  rw [if_neg hno]
  have e : ((List.range (Builtin.Slice.slicePlaces ((HT.sIx us.length 0 lo : Nat) : Int) (us.length : Int) (c : Int))).filterMap fun (k : Nat) => us.toArray[(((HT.sIx us.length 0 lo : Nat) : Int) + (k : Int) * (c : Int)).toNat]?).toArray = (pick us (HT.sIx us.length 0 lo) c).toArray := by
    obtain ⟨k, ek, hk, hm⟩ := places_step (i := HT.sIx us.length 0 lo) (n := us.length) (c := c) (by omega)
    rw [ek]
    unfold pick
    congr 1
    have e : (fun (k : Nat) => us.toArray[(((HT.sIx us.length 0 lo : Nat) : Int) + (k : Int) * (c : Int)).toNat]?) = fun m => us[HT.sIx us.length 0 lo + m * c]? := by
      funext m
      have : (((HT.sIx us.length 0 lo : Nat) : Int) + (m : Int) * (c : Int)).toNat = HT.sIx us.length 0 lo + m * c := by
        rw [← Int.natCast_mul, ← Int.natCast_add, Int.toNat_natCast]
      rw [this]; simp
    rw [e]
    exact range_cut hk fun m h => List.getElem?_eq_none_iff.mpr (hm m h)
  rw [e]
  first
    | exact wpAny_bind (m := Builtin.Tuple.tupleExact _) (wpAny_newObj_type (wpAny_pure ⟨_, rfl, wpAny_pure h⟩) htake)
    | exact wpAny_bind (m := Builtin.Tuple.tupleExact _) (wpAny_newObj_type (wpAny_bind (wpAny_pure (wpAny_pure ⟨_, rfl, wpAny_pure h⟩))) htake)
    | exact wpAny_bind (wpAny_bind (m := Builtin.Tuple.tupleExact _) (wpAny_newObj_type (wpAny_pure (wpAny_pure ⟨_, rfl, wpAny_pure h⟩)) htake))
    | exact wpAny_bind (wpAny_bind (m := Builtin.Tuple.tupleExact _) (wpAny_newObj_type (wpAny_pure ⟨_, rfl, wpAny_pure h⟩) htake))
end
/-- x[lo::c], x a list or a tuple -/
def rStep (K : PySem.W.Frag) (c : Nat) : V → Option Int → Hp → VK → Prop := fun x lo H Q => ∃ a xs, x = .ref a ∧
  ((SqL K H a xs ∧ ∀ p, H p = none → Q (.ref p) (upd H p (.lst (pick xs (HT.sIx xs.length 0 lo) c)))) ∨ (SqT K H a xs ∧ ∀ p, H p = none → Q (.ref p) (upd H p (.tup (pick xs (HT.sIx xs.length 0 lo) c)))))
def tStep (K : PySem.W.Frag) (c : Nat) (te : TE) (tl : TO) : TE := fun σ H Q => te σ H fun x H1 => tl σ H1 fun lo H2 => rStep K c x lo H2 Q
theorem pe_step {X : Cx} {e : Expr} {lo : Option Expr} {te : TE} {tl : TO} {c : Nat} {k : Nat} {p1 p3 pos : Pos} (hc : 1 < c) (he : PE X e te) (hl : PO X lo tl)
    (hx : ∀ v a, ∃ ops, subscripted (.Slice lo none (some (.Constant (.int c) k p1)) p3) false v (.ref a) = operate ops (getItem v (.ref a)) := by (intro _ _; exact ⟨_, by with_unfolding_all rfl⟩)) :
    PE X (.Subscript e (.Slice lo none (some (.Constant (.int c) k p1)) p3) pos) (tStep X.K c te tl) := by
  refine ⟨fun pins s σ H Q I h => ?_⟩
  refine Subscript_ (thn (he.run pins s σ H _ I h) fun v s1 ⟨x, H1, I1, r1, q1⟩ => ?_)
  refine wpAny_Slice (thn (hl.run pins s1 σ H1 _ I1 q1) fun vl s2 ⟨l, H2, I2, pl, q2⟩ => ?_)
  have hst : PO X (some (.Constant (.int c) k p1)) (tPart (tC (.int c))) := po_some pe_int
  refine thn (po_none.run pins s2 σ H2 (fun o H3 => o = none ∧ H3 = H2) I2 ⟨rfl, rfl⟩) fun vu s3 ⟨u, H3, I3, pu, eu, e3⟩ => ?_
  subst eu e3
  refine thn (hst.run pins s3 σ H3 (fun o H4 => o = some (c : Int) ∧ H4 = H3) I3 ⟨_, rfl, rfl, rfl⟩) fun vs s4 ⟨o, H4, I4, ps, eo, e4⟩ => ?_
  subst eo e4
  cases pu
  have I5 : Inv X pins σ H4 { s4 with heap := s4.heap.push { cls := .type "slice", data := .fields #[vl, .none, vs] } } := I4.kept (t' := s4.toks) fun b ob q => Heap.get?_push_of_some _ q
  obtain ⟨a, xs, ex, q⟩ := q2
  subst ex
  cases r1
  obtain ⟨ops, hops⟩ := hx (.ref a) s4.heap.objs.size
  show wpAny (model X.prog X.w) X.A (subscriptTail e (.Slice lo none (some (.Constant (.int c) k p1)) p3) (.ref a) (.ref s4.heap.objs.size)) (EP X pins σ Q) X.xe { s4 with heap := s4.heap.push { cls := .type "slice", data := .fields #[vl, .none, vs] } }
  rcases q with ⟨hq, q⟩ | ⟨hq, q⟩
  · obtain ⟨its, r, ht, hz⟩ := I5.list hq
    have hlen := r.length
    refine tail_any (ops := ops) ht.isList.typeIs (PySem.slot_list_getitem.lookup) ?_ hops
    refine wpAny_getItem_list_slice ht.isList (Heap.IsSliceOf.new _ vl .none vs) pl .none ps (by simp; omega) ?_ (by rw [List.size_toArray]; omega)
    rw [slicePick_step its l c (by omega), ← hlen]
    exact ⟨.ref _, _, I5.laid (t' := s4.toks) (o := .lst (pick xs (HT.sIx xs.length 0 l) c)) (fun b ob q => Heap.get?_push_of_some _ q) (Nat.le_refl _)
      ⟨Nat.le_trans (pick_length _ _ _) hz, _, 0, Vals.pick r _ _, Heap.get?_push_size _ rfl⟩, rfl, q _ (I5.hok.fresh (Nat.le_refl _))⟩
  · obtain ⟨its, r, ht, hz⟩ := I5.tuple hq
    have hlen := r.length
    refine tail_any (ops := ops) ht.typeIs (PyProof.Rows.slot_tuple_getitem.lookup) ?_ hops
    refine getItem_tuple_step ht (Heap.IsSliceOf.new _ vl .none vs) pl ps hc ?_ (by omega)
    rw [← hlen]
    exact ⟨.ref _, _, I5.laid (t' := s4.toks) (o := .tup (pick xs (HT.sIx xs.length 0 l) c)) (fun b ob q => Heap.get?_push_of_some _ q) (Nat.le_refl _)
      ⟨Nat.le_trans (pick_length _ _ _) hz, _, Vals.pick r _ _, IsTup.new _ _⟩, rfl, q _ (I5.hok.fresh (Nat.le_refl _))⟩
end Dl


namespace Dl
open PySem L2

/-! ### the rules by which a body is read -/
section
variable {X : Cx} {E : EK} {a b c e : Expr} {ta tb tc te : TE} {pos : Pos} {i : Nat}
theorem x_up {t : TDD} (h : DD K X E e te t) : DE K X E e te (dUp t) := by
  cases h.hK
  exact ⟨rfl, h.pe, h.ld.up⟩
theorem x_fz {t : TDE} (h : DE K X E e te t) : DD K X E e te (dFz t) := by
  cases h.hK
  exact ⟨rfl, h.pe, h.le.fz⟩
theorem x_var {x : Str} (hN : X.N[i]? = some x := by rfl) (hv : Vis X.env.scope x := by first | exact Or.inl rfl | exact Or.inr (Or.inl rfl) | exact Or.inr (Or.inr rfl)) (hd : (x == ("__debug__" : Str)) = false := by decide)
    (hcd : (x == ("__classdict__" : Str)) = false := by decide) (hK : X.K = K := by rfl) : DD K X E (.Name x pos) (tVar i) (dVar i) := by
  cases hK
  exact ⟨rfl, pe_var hN hv hd hcd, ld_var⟩
theorem p_var {x : Str} (hN : X.N[i]? = some x := by rfl) (hv : Vis X.env.scope x := by first | exact Or.inl rfl | exact Or.inr (Or.inl rfl) | exact Or.inr (Or.inr rfl)) (hd : (x == ("__debug__" : Str)) = false := by decide)
    (hcd : (x == ("__classdict__" : Str)) = false := by decide) : PE X (.Name x pos) (tVar i) := pe_var hN hv hd hcd
theorem x_int {n : Int} {k : Nat} (hK : X.K = K := by rfl) : DD K X E (.Constant (.int n) k pos) (tC (.int n)) (dC (.int n)) := by
  cases hK
  exact ⟨rfl, pe_int, ld_c fun _ => rfl⟩
theorem x_bl {n : Bool} {k : Nat} (hK : X.K = K := by rfl) : DD K X E (.Constant (.bool n) k pos) (tC (.bl n)) (dC (.bl n)) := by
  cases hK
  exact ⟨rfl, pe_bl, ld_c fun _ => rfl⟩
theorem x_non {k : Nat} (hK : X.K = K := by rfl) : DD K X E (.Constant .none k pos) (tC .non) (dC .non) := by
  cases hK
  exact ⟨rfl, pe_non, ld_c fun _ => rfl⟩
theorem x_str {n : Str} {k : Nat} (hK : X.K = K := by rfl) : DD K X E (.Constant (.str n) k pos) (tC (.str n)) (dC (.str n)) := by
  cases hK
  exact ⟨rfl, pe_str, ld_c fun _ => rfl⟩
theorem x_glob {x : Str} {v : V} {u : Value} {d : D} (hm : X.mg x = some u) (r : RelV v u) (rd : ∀ G, Rep K G d v) (hg : Gl X x := by rfl) (hd : (x == ("__debug__" : Str)) = false := by decide) (hK : X.K = K := by rfl) : DD K X E (.Name x pos) (tC v) (dC d) := by
  cases hK
  exact ⟨rfl, pe_glob hg hm r hd, ld_c rd⟩
theorem x_op {op : Operator} {r : R2} {f : D → D → (T → Prop) → Prop} {s t : TDD} (ho : OpR X (binaryOp op) r) (hf : Op2 K r f) (ha : DD K X E a ta s) (hb : DD K X E b tb t) : DE K X E (.BinOp a op b pos) (tOp r ta tb) (dOp f s t) := by
  cases ha.hK
  exact ⟨rfl, pe_op ho ha.pe hb.pe, le_op hf ha.ld hb.ld⟩
theorem x_add {s t : TDD} (ha : DD K X E a ta s) (hb : DD K X E b tb t) : DE K X E (.BinOp a .Add b pos) (tOp (rAddG K) ta tb) (dOp fAdd s t) := by
  cases ha.hK
  exact x_op op_addG o2_add ha hb
abbrev fSub : D → D → (T → Prop) → Prop := fI0 fun i j => .int (i - j)
theorem x_sub {s t : TDD} (ha : DD K X E a ta s) (hb : DD K X E b tb t) : DE K X E (.BinOp a .Sub b pos) (tOp (rI0 fun i j => .int (i - j)) ta tb) (dOp fSub s t) := by
  cases ha.hK
  exact x_op op_sub (o2_int0 fun _ _ _ => rfl) ha hb
theorem x_mul {s t : TDD} (ha : DD K X E a ta s) (hb : DD K X E b tb t) : DE K X E (.BinOp a .Mult b pos) (tOp rMulG ta tb) (dOp fMul s t) := by
  cases ha.hK
  exact x_op op_mulG o2_mul ha hb
abbrev fMod : D → D → (T → Prop) → Prop := fI (fun _ j => 0 < j) fun i j => .int (i % j)
theorem x_mod {s t : TDD} (ha : DD K X E a ta s) (hb : DD K X E b tb t) : DE K X E (.BinOp a .Mod b pos) (tOp (rI (fun _ j => 0 < j) fun i j => .int (i % j)) ta tb) (dOp fMod s t) := by
  cases ha.hK
  exact x_op op_mod (o2_int fun _ _ _ => rfl) ha hb
abbrev fDiv : D → D → (T → Prop) → Prop := fI CDivW fun i j => .int (i / j)
theorem x_div {s t : TDD} (ha : DD K X E a ta s) (hb : DD K X E b tb t) : DE K X E (.BinOp a .FloorDiv b pos) (tOp (rI CDivW fun i j => .int (i / j)) ta tb) (dOp fDiv s t) := by
  cases ha.hK
  exact x_op op_fdivW (o2_int fun _ _ _ => rfl) ha hb
def CPowW (i j : Int) : Prop := 0 ≤ j ∧ (Builtin.Int.intBits i : Int) * j ≤ 2 ^ 27
theorem op_powW {X : Cx} : OpR X (binaryOp .Pow) (rI CPowW fun i j => .int (i ^ j.toNat)) := opI fun _ _ _ _ _ _ _ hc q => PyProof.Rows.pow_int hc.1 hc.2 q
abbrev fPow : D → D → (T → Prop) → Prop := fI CPowW fun i j => .int (i ^ j.toNat)
theorem x_pow {s t : TDD} (ha : DD K X E a ta s) (hb : DD K X E b tb t) : DE K X E (.BinOp a .Pow b pos) (tOp (rI CPowW fun i j => .int (i ^ j.toNat)) ta tb) (dOp fPow s t) := by
  cases ha.hK
  exact x_op op_powW (o2_int fun _ _ _ => rfl) ha hb
def fNeg : D → (T → Prop) → Prop := fun x k => match x with
  | .int i => k (.fz (.int (-i)))
  | _ => False
theorem o1_neg {K : PySem.W.Frag} : Op1 K (rU fun i => .int (-i)) fNeg := ⟨fun x k hf G F ρ σ H vx R hd r1 kk => by
  unfold fNeg at hf
  split at hf
  · exact ⟨_, r1, hd.ret kk (d := .int _) rfl hf⟩
  · exact hf.elim⟩
theorem x_neg {s : TDD} (ha : DD K X E a ta s) : DE K X E (.UnaryOp .USub a pos) (tUn (rU fun i => .int (-i)) ta) (dUn fNeg s) := by
  cases ha.hK
  exact ⟨rfl, pe_un un_neg ha.pe, le_un o1_neg ha.ld⟩
/-! comparisons -/
theorem x_cmp {op : CmpOp} {r : R2} {f : D → D → (T → Prop) → Prop} {s t : TDD} (ho : OpR X (compareOp op) r) (hf : Op2 K r f) (ha : DD K X E a ta s) (hb : DD K X E b tb t) (hm : behindInMarks op b = false) : DE K X E (.Compare a [op] [b] pos) (tOp r ta tb) (dOp f s t) := by
  cases ha.hK
  exact ⟨rfl, pe_cmpR ho ha.pe hb.pe hm, le_op hf ha.ld hb.ld⟩
theorem y_cmp {op : CmpOp} {r : R2} {f : D → D → (T → Prop) → Prop} {s t : TDD} (ho : OpR X (compareOp op) r) (hf : Op2 K r f) (ha : DD K X E a ta s) (hb : DD K X E b tb t) (hm : behindInMarks op b = false) : DT K X E (.Compare a [op] [b] pos) (tTest (tOp r ta tb)) (dTB (dOp f s t)) := by
  cases ha.hK
  exact ⟨rfl, pt_cmpR ho ha.pe hb.pe hm, lt_b (le_op hf ha.ld hb.ld)⟩
theorem o_lt {X : Cx} : OpR X (compareOp .Lt) (rI0 fun i j => .bl (decide (i < j))) := op_lt
theorem o_le {X : Cx} : OpR X (compareOp .LtE) (rI0 fun i j => .bl (decide (i ≤ j))) := op_le
theorem o_gt {X : Cx} : OpR X (compareOp .Gt) (rI0 fun i j => .bl (decide (i > j))) := op_gt
theorem o_ge {X : Cx} : OpR X (compareOp .GtE) (rI0 fun i j => .bl (decide (i ≥ j))) := op_ge
theorem x_lt {s t : TDD} (ha : DD K X E a ta s) (hb : DD K X E b tb t) : DE K X E (.Compare a [.Lt] [b] pos) (tOp (rI0 fun i j => .bl (decide (i < j))) ta tb) (dOp fLt s t) := by
  cases ha.hK
  exact x_cmp o_lt (o2_int0 fun _ _ _ => rfl) ha hb (nomark _)
theorem x_le {s t : TDD} (ha : DD K X E a ta s) (hb : DD K X E b tb t) : DE K X E (.Compare a [.LtE] [b] pos) (tOp (rI0 fun i j => .bl (decide (i ≤ j))) ta tb) (dOp fLe s t) := by
  cases ha.hK
  exact x_cmp o_le (o2_int0 fun _ _ _ => rfl) ha hb (nomark _)
theorem x_gt {s t : TDD} (ha : DD K X E a ta s) (hb : DD K X E b tb t) : DE K X E (.Compare a [.Gt] [b] pos) (tOp (rI0 fun i j => .bl (decide (i > j))) ta tb) (dOp fGt s t) := by
  cases ha.hK
  exact x_cmp o_gt (o2_int0 fun _ _ _ => rfl) ha hb (nomark _)
theorem x_ge {s t : TDD} (ha : DD K X E a ta s) (hb : DD K X E b tb t) : DE K X E (.Compare a [.GtE] [b] pos) (tOp (rI0 fun i j => .bl (decide (i ≥ j))) ta tb) (dOp fGe s t) := by
  cases ha.hK
  exact x_cmp o_ge (o2_int0 fun _ _ _ => rfl) ha hb (nomark _)
theorem x_eq (hu : X.A.units + 64 < cLine) {s t : TDD} (ha : DD K X E a ta s) (hb : DD K X E b tb t) : DE K X E (.Compare a [.Eq] [b] pos) (tOp (rEqG K) ta tb) (dOp (fEq false) s t) := by
  cases ha.hK
  exact x_cmp (op_eqG hu) o2_eq ha hb (nomark _)
theorem x_ne (hu : X.A.units + 64 < cLine) {s t : TDD} (ha : DD K X E a ta s) (hb : DD K X E b tb t) : DE K X E (.Compare a [.NotEq] [b] pos) (tOp (rNeG K) ta tb) (dOp (fEq true) s t) := by
  cases ha.hK
  exact x_cmp (op_neG hu) o2_ne ha hb (nomark _)
theorem y_lt {s t : TDD} (ha : DD K X E a ta s) (hb : DD K X E b tb t) : DT K X E (.Compare a [.Lt] [b] pos) (tTest (tOp (rI0 fun i j => .bl (decide (i < j))) ta tb)) (dTB (dOp fLt s t)) := by
  cases ha.hK
  exact y_cmp o_lt (o2_int0 fun _ _ _ => rfl) ha hb (nomark _)
theorem y_le {s t : TDD} (ha : DD K X E a ta s) (hb : DD K X E b tb t) : DT K X E (.Compare a [.LtE] [b] pos) (tTest (tOp (rI0 fun i j => .bl (decide (i ≤ j))) ta tb)) (dTB (dOp fLe s t)) := by
  cases ha.hK
  exact y_cmp o_le (o2_int0 fun _ _ _ => rfl) ha hb (nomark _)
theorem y_gt {s t : TDD} (ha : DD K X E a ta s) (hb : DD K X E b tb t) : DT K X E (.Compare a [.Gt] [b] pos) (tTest (tOp (rI0 fun i j => .bl (decide (i > j))) ta tb)) (dTB (dOp fGt s t)) := by
  cases ha.hK
  exact y_cmp o_gt (o2_int0 fun _ _ _ => rfl) ha hb (nomark _)
theorem y_ge {s t : TDD} (ha : DD K X E a ta s) (hb : DD K X E b tb t) : DT K X E (.Compare a [.GtE] [b] pos) (tTest (tOp (rI0 fun i j => .bl (decide (i ≥ j))) ta tb)) (dTB (dOp fGe s t)) := by
  cases ha.hK
  exact y_cmp o_ge (o2_int0 fun _ _ _ => rfl) ha hb (nomark _)
theorem y_eq (hu : X.A.units + 64 < cLine) {s t : TDD} (ha : DD K X E a ta s) (hb : DD K X E b tb t) : DT K X E (.Compare a [.Eq] [b] pos) (tTest (tOp (rEqG K) ta tb)) (dTB (dOp (fEq false) s t)) := by
  cases ha.hK
  exact y_cmp (op_eqG hu) o2_eq ha hb (nomark _)
theorem y_ne (hu : X.A.units + 64 < cLine) {s t : TDD} (ha : DD K X E a ta s) (hb : DD K X E b tb t) : DT K X E (.Compare a [.NotEq] [b] pos) (tTest (tOp (rNeG K) ta tb)) (dTB (dOp (fEq true) s t)) := by
  cases ha.hK
  exact y_cmp (op_neG hu) o2_ne ha hb (nomark _)
/-! is None -/
def fIsN (n : Bool) : T → (T → Prop) → Prop := fun τ k => match τ with
  | .fz .non => k (.fz (.bl (!n)))
  | _ => k (.fz (.bl n))
theorem rept_non {K : PySem.W.Frag} {G O : Hp} {τ : T} {v : V} (r : RepT K G τ v O) (h : τ ≠ .fz .non) : v ≠ .non := by
  intro e
  subst e
  cases τ with
  | fz d =>
    cases d with
    | non => exact h rfl
    | bl b => cases (show V.non = V.bl b from r)
    | int b => cases (show V.non = V.int b from r)
    | str b => cases (show V.non = V.str b from r)
    | ty b => cases (show V.non = V.ty b from r)
    | ref b => cases (show V.non = V.ref b from r)
    | lst ds => obtain ⟨_, _, e, _⟩ := r; cases e
    | tup ds => obtain ⟨_, _, e, _⟩ := r; cases e
    | sq ds => obtain ⟨_, _, e, _⟩ := r; cases e
    | dk ks ds => obtain ⟨_, _, e, _⟩ := r; cases e
    | dt ks ds => obtain ⟨_, _, e, _⟩ := r; cases e
    | set S n => obtain ⟨_, e, _⟩ := r; cases e
    | obj C ns ds => obtain ⟨_, _, _, e, _⟩ := r; cases e
  | ls ts => obtain ⟨_, _, _, e, _⟩ := r; cases e
  | dk ks ts => obtain ⟨_, _, _, e, _⟩ := r; cases e
  | dt ks ts => obtain ⟨_, _, _, e, _⟩ := r; cases e
  | st S n => obtain ⟨_, e, _⟩ := r; cases e
  | ob C ns ts => obtain ⟨_, _, _, _, e, _⟩ := r; cases e
theorem isN_sound {K : PySem.W.Frag} {G G' F H O : Hp} {ρ : Env} {σ : St} {τ : T} {v : V} {n : Bool} {k : T → Prop} {R : VK} (hf : fIsN n τ k) (r : RepT K G τ v O) (hd : Hd K G F ρ σ H)
    (kk : ∀ G' H' τ' v', Sub G G' → HdT K G' F τ' v' ρ σ H' → k τ' → R v' H') : R (.bl (n != decide (v = .non))) H := by
  unfold fIsN at hf
  split at hf
  · cases (show v = V.non from r)
    exact hd.ret kk (d := .bl _) (by cases n <;> rfl) hf
  · rename_i h
    have : v ≠ .non := rept_non r h
    rw [decide_eq_false this]
    exact hd.ret kk (d := .bl _) (by cases n <;> rfl) hf
theorem b1_isN {K : PySem.W.Frag} : B1 K (fun x H Q => Q (.bl (decide (x = .non))) H) (fIsN false) := ⟨fun τ k hf G F ρ σ H v Ov R rt so hd kk => by
  have := isN_sound (G' := G) hf rt hd kk
  simpa using this⟩
theorem b1_notN {K : PySem.W.Frag} : B1 K (fun x H Q => Q (.bl (!decide (x = .non))) H) (fIsN true) := ⟨fun τ k hf G F ρ σ H v Ov R rt so hd kk => by
  have := isN_sound (G' := G) hf rt hd kk
  simpa using this⟩
abbrev tIs (ta : TE) : TE := tUn (fun x H Q => Q (.bl (decide (x = .non))) H) ta
abbrev tIsnt (ta : TE) : TE := tUn (fun x H Q => Q (.bl (!decide (x = .non))) H) ta
theorem x_isN {s : TDE} {k : Nat} {p : Pos} (ha : DE K X E a ta s) : DE K X E (.Compare a [.Is] [.Constant .none k p] pos) (tIs ta) (bUn (fIsN false) s) := by
  cases ha.hK
  exact ⟨rfl, pe_cmp (pc_isN ha.pe) (nomark _), le_un1 b1_isN ha.le⟩
theorem x_notN {s : TDE} {k : Nat} {p : Pos} (ha : DE K X E a ta s) : DE K X E (.Compare a [.IsNot] [.Constant .none k p] pos) (tIsnt ta) (bUn (fIsN true) s) := by
  cases ha.hK
  exact ⟨rfl, pe_cmp (pc_notN ha.pe) (nomark _), le_un1 b1_notN ha.le⟩
theorem y_isN {s : TDE} {k : Nat} {p : Pos} (ha : DE K X E a ta s) : DT K X E (.Compare a [.Is] [.Constant .none k p] pos) (tTest (tIs ta)) (dTB (bUn (fIsN false) s)) := by
  cases ha.hK
  exact ⟨rfl, pt_cmp (pc_isN ha.pe) (nomark _), lt_b (le_un1 b1_isN ha.le)⟩
theorem y_notN {s : TDE} {k : Nat} {p : Pos} (ha : DE K X E a ta s) : DT K X E (.Compare a [.IsNot] [.Constant .none k p] pos) (tTest (tIsnt ta)) (dTB (bUn (fIsN true) s)) := by
  cases ha.hK
  exact ⟨rfl, pt_cmp (pc_notN ha.pe) (nomark _), lt_b (le_un1 b1_notN ha.le)⟩
theorem x_isNV {x : Str} {k : Nat} {p p2 : Pos} (ha : PE X (.Name x p2) (tVar i)) (hK : X.K = K := by rfl) : DE K X E (.Compare (.Name x p2) [.Is] [.Constant .none k p] pos) (tIs (tVar i)) (bUnV (fIsN false) i) := by
  cases hK
  exact ⟨rfl, pe_cmp (pc_isN ha) (nomark _), le_un1V b1_isN⟩
theorem x_notNV {x : Str} {k : Nat} {p p2 : Pos} (ha : PE X (.Name x p2) (tVar i)) (hK : X.K = K := by rfl) : DE K X E (.Compare (.Name x p2) [.IsNot] [.Constant .none k p] pos) (tIsnt (tVar i)) (bUnV (fIsN true) i) := by
  cases hK
  exact ⟨rfl, pe_cmp (pc_notN ha) (nomark _), le_un1V b1_notN⟩
theorem y_isNV {x : Str} {k : Nat} {p p2 : Pos} (ha : PE X (.Name x p2) (tVar i)) (hK : X.K = K := by rfl) : DT K X E (.Compare (.Name x p2) [.Is] [.Constant .none k p] pos) (tTest (tIs (tVar i))) (dTB (bUnV (fIsN false) i)) := by
  cases hK
  exact ⟨rfl, pt_cmp (pc_isN ha) (nomark _), lt_b (le_un1V b1_isN)⟩
theorem y_notNV {x : Str} {k : Nat} {p p2 : Pos} (ha : PE X (.Name x p2) (tVar i)) (hK : X.K = K := by rfl) : DT K X E (.Compare (.Name x p2) [.IsNot] [.Constant .none k p] pos) (tTest (tIsnt (tVar i))) (dTB (bUnV (fIsN true) i)) := by
  cases hK
  exact ⟨rfl, pt_cmp (pc_notN ha) (nomark _), lt_b (le_un1V b1_notN)⟩
/-! tests -/
theorem y_val {s : TDE} (ha : DE K X E a ta s) (he : ∀ whole, isTrue a X.env whole = (do let v ← whole; standAt a.pos; holding [v] (truthy v)) := by intro _; rfl) : DT K X E a (tTru K ta) (dTru s) := by
  cases ha.hK
  exact ⟨rfl, pt_truth ha.pe he, lt_tru ha.le⟩
theorem y_var {x : Str} {p2 : Pos} (ha : PE X (.Name x p2) (tVar i)) (he : ∀ whole, isTrue (.Name x p2) X.env whole = (do let v ← whole; standAt (Expr.Name x p2).pos; holding [v] (truthy v)) := by intro _; rfl) (hK : X.K = K := by rfl) : DT K X E (.Name x p2) (tTru K (tVar i)) (dTruV i) := by
  cases hK
  exact ⟨rfl, pt_truth ha he, lt_truV⟩
variable {tt tu : TT} {rest : List Expr}
theorem y_pt {t : TDT} (h : DW K X E a tt t) : DT K X E a tt t := by
  cases h.hK
  exact ⟨rfl, h.pw.pt, h.lt⟩
theorem w_and1 {t : TDT} (h : DT K X E a tt t) : DW K X E (.BoolOp .And [a] pos) tt t := by
  cases h.hK
  exact ⟨rfl, pw_and1 h.pt, h.lt⟩
theorem w_or1 {t : TDT} (h : DT K X E a tt t) : DW K X E (.BoolOp .Or [a] pos) tt t := by
  cases h.hK
  exact ⟨rfl, pw_or1 h.pt, h.lt⟩
theorem w_and {t u : TDT} (h : DT K X E a tt t) (g : DW K X E (.BoolOp .And (b :: rest) pos) tu u) : DW K X E (.BoolOp .And (a :: b :: rest) pos) (tAnd tt tu) (dAnd t u) := by
  cases h.hK
  exact ⟨rfl, pw_and h.pt g.pw, lt_and h.lt g.lt⟩
theorem w_or {t u : TDT} (h : DT K X E a tt t) (g : DW K X E (.BoolOp .Or (b :: rest) pos) tu u) : DW K X E (.BoolOp .Or (a :: b :: rest) pos) (tOr tt tu) (dOr t u) := by
  cases h.hK
  exact ⟨rfl, pw_or h.pt g.pw, lt_or h.lt g.lt⟩
theorem y_not {t : TDT} (h : DT K X E a tt t) : DT K X E (.UnaryOp .Not a pos) (tNot tt) (dNot t) := by
  cases h.hK
  exact ⟨rfl, pt_not h.pt, lt_not h.lt⟩
/-! and, or, not as values -/
theorem x_bone {op : BoolOp} {t : TDE} (h : DE K X E a ta t) : DE K X E (.BoolOp op [a] pos) ta t := by
  cases h.hK
  exact ⟨rfl, pe_one h.pe, h.le⟩
theorem x_and {t u : TDE} (h : DE K X E a ta t) (g : DE K X E (.BoolOp .And (b :: rest) pos) tb u) : DE K X E (.BoolOp .And (a :: b :: rest) pos) (tAndV ta tb) (dAndV t u) := by
  cases h.hK
  exact ⟨rfl, pe_and h.pe g.pe, le_andV h.le g.le⟩
theorem x_or {t u : TDE} (h : DE K X E a ta t) (g : DE K X E (.BoolOp .Or (b :: rest) pos) tb u) : DE K X E (.BoolOp .Or (a :: b :: rest) pos) (tOrV ta tb) (dOrV t u) := by
  cases h.hK
  exact ⟨rfl, pe_or h.pe g.pe, le_orV h.le g.le⟩
theorem x_not {t : TDE} (h : DE K X E a ta t) : DE K X E (.UnaryOp .Not a pos) (tNotV ta) (dNotV t) := by
  cases h.hK
  exact ⟨rfl, pe_not h.pe, le_notV h.le⟩
theorem x_if {t : TDT} {u v : TDE} (h : DT K X E c tt t) (ha : DE K X E a ta u) (hb : DE K X E b tb v) : DE K X E (.IfExp c a b pos) (tIf tt ta tb) (dIfE t u v) := by
  cases h.hK
  exact ⟨rfl, pe_ifExp h.pt ha.pe hb.pe, le_ifE h.lt ha.le hb.le⟩
/-! arguments, displays -/
variable {es : List Expr} {tl : TA}
theorem a_nil (hK : X.K = K := by rfl) : DA K X E [] tNil daNil := by
  cases hK
  exact ⟨rfl, pa_nil, la_nil⟩
theorem a_cons {s : TDD} {r : TDA} (ha : DD K X E e te s) (hr : DA K X E es tl r) (hs : starEach (e :: es) X.env = (false, eval e X.env) :: starEach es X.env := by rfl) : DA K X E (e :: es) (tCons te tl) (daCons s r) := by
  cases ha.hK
  exact ⟨rfl, pa_cons ha.pe hr.pa hs, la_cons ha.ld hr.la⟩
theorem a_io {x : Str} {p2 : Pos} {r : TDA} (ha : PE X (.Name x p2) (tVar i)) (hr : DA K X E es tl r) (hs : starEach (.Name x p2 :: es) X.env = (false, eval (.Name x p2) X.env) :: starEach es X.env := by rfl) : DA K X E (.Name x p2 :: es) (tCons (tVar i) tl) (daIo i r) := by
  cases hr.hK
  exact ⟨rfl, pa_cons ha hr.pa hs, la_io hr.la⟩
theorem x_lst {r : TDA} (h : DA K X E es tl r) : DE K X E (.List es pos) (tLst tl) (dLst r) := by
  cases h.hK
  exact ⟨rfl, pe_lst h.pa, le_lst h.la⟩
theorem x_tup {r : TDA} {k : Nat} (h : DA K X E es tl r) : DE K X E (.Tuple es k pos) (tTup tl) (dTup r) := by
  cases h.hK
  exact ⟨rfl, pe_tup h.pa, le_tup h.la⟩
/-! built-in functions and types -/
variable {x id Tn : String} {p : Pos} {r : List V → Hp → VK → Prop}
theorem x_cB1 {xs : Str} {f : T → (T → Prop) → Prop} {q : TDA} (hc : CallR X (.builtin id) r) (hf : B1 K (r1 r) f) (hm : X.mg xs = none) (hv : bootBuiltins xs = some (.builtin id)) (ha : DA K X E (e :: es) tl q) (hg : Gl X xs := by rfl) (hn : xs ≠ "__name__" := by decide) (hdb : (xs == ("__debug__" : Str)) = false := by decide)
    (he : starEach (e :: es) X.env = (false, eval e X.env) :: starEach es X.env := by rfl) (hpl : (backTo pos (starEach es X.env)).any (·.1) = false := by rfl) : DE K X E (.Call (.Name xs p) (e :: es) [] pos) (tCB r tl) (bC1 f q) := by
  cases ha.hK
  exact ⟨rfl, pe_callB hc hg hm hv ha.pa hn hdb he hpl, le_c1 hf ha.la⟩
theorem x_cT1 {xs : Str} {f : T → (T → Prop) → Prop} {q : TDA} (hc : CallR X (.type Tn) r) (hf : B1 K (r1 r) f) (hm : X.mg xs = none) (hv : bootBuiltins xs = some (.type Tn)) (ha : DA K X E (e :: es) tl q) (hg : Gl X xs := by rfl) (hn : xs ≠ "__name__" := by decide) (hdb : (xs == ("__debug__" : Str)) = false := by decide)
    (he : starEach (e :: es) X.env = (false, eval e X.env) :: starEach es X.env := by rfl) (hpl : (backTo pos (starEach es X.env)).any (·.1) = false := by rfl) : DE K X E (.Call (.Name xs p) (e :: es) [] pos) (tCB r tl) (bC1 f q) := by
  cases ha.hK
  exact ⟨rfl, pe_callTy hc hg hm hv ha.pa hn hdb he hpl, le_c1 hf ha.la⟩
theorem x_cBN {xs : Str} {f : List D → (T → Prop) → Prop} {q : TDA} (hc : CallR X (.builtin id) r) (hf : BN K r f) (hm : X.mg xs = none) (hv : bootBuiltins xs = some (.builtin id)) (ha : DA K X E (e :: es) tl q) (hg : Gl X xs := by rfl) (hn : xs ≠ "__name__" := by decide) (hdb : (xs == ("__debug__" : Str)) = false := by decide)
    (he : starEach (e :: es) X.env = (false, eval e X.env) :: starEach es X.env := by rfl) (hpl : (backTo pos (starEach es X.env)).any (·.1) = false := by rfl) : DE K X E (.Call (.Name xs p) (e :: es) [] pos) (tCB r tl) (bCN f q) := by
  cases ha.hK
  exact ⟨rfl, pe_callB hc hg hm hv ha.pa hn hdb he hpl, le_cN hf ha.la⟩
theorem x_len {q : TDA} (hm : X.mg "len" = none) (ha : DA K X E (e :: es) tl q) (hg : Gl X "len" := by rfl) (he : starEach (e :: es) X.env = (false, eval e X.env) :: starEach es X.env := by rfl) (hpl : (backTo pos (starEach es X.env)).any (·.1) = false := by rfl) :
    DE K X E (.Call (.Name "len" p) (e :: es) [] pos) (tCB (rLen K) tl) (bC1 fLen q) := by
  cases ha.hK
  exact x_cB1 call_len b1_len hm PySem.boot_len ha hg (by decide) (by decide) he hpl
theorem x_list {q : TDA} (hm : X.mg "list" = none) (ha : DA K X E (e :: es) tl q) (hg : Gl X "list" := by rfl) (he : starEach (e :: es) X.env = (false, eval e X.env) :: starEach es X.env := by rfl) (hpl : (backTo pos (starEach es X.env)).any (·.1) = false := by rfl) :
    DE K X E (.Call (.Name "list" p) (e :: es) [] pos) (tCB (rListOf K) tl) (bC1 fList q) := by
  cases ha.hK
  exact x_cT1 call_list_of b1_list hm (by decide +kernel) ha hg (by decide) (by decide) he hpl
theorem x_tuple {q : TDA} (hm : X.mg "tuple" = none) (ha : DA K X E (e :: es) tl q) (hg : Gl X "tuple" := by rfl) (he : starEach (e :: es) X.env = (false, eval e X.env) :: starEach es X.env := by rfl) (hpl : (backTo pos (starEach es X.env)).any (·.1) = false := by rfl) :
    DE K X E (.Call (.Name "tuple" p) (e :: es) [] pos) (tCB (rTupleOf K) tl) (bC1 fTuple q) := by
  cases ha.hK
  exact x_cT1 call_tuple_of b1_tuple hm (by decide +kernel) ha hg (by decide) (by decide) he hpl
theorem x_toInt {q : TDA} (hm : X.mg "int" = none) (ha : DA K X E (e :: es) tl q) (hg : Gl X "int" := by rfl) (he : starEach (e :: es) X.env = (false, eval e X.env) :: starEach es X.env := by rfl) (hpl : (backTo pos (starEach es X.env)).any (·.1) = false := by rfl) :
    DE K X E (.Call (.Name "int" p) (e :: es) [] pos) (tCB rInt1 tl) (bC1 fInt q) := by
  cases ha.hK
  exact x_cT1 call_int1 b1_int hm (by decide +kernel) ha hg (by decide) (by decide) he hpl
/-- max(a, b), min(a, b) of ints -/
def fMax2 : List D → (T → Prop) → Prop := fun ds k => match ds with
  | [.int i, .int j] => k (.fz (.int (if j > i then j else i)))
  | _ => False
def fMin2 : List D → (T → Prop) → Prop := fun ds k => match ds with
  | [.int i, .int j] => k (.fz (.int (if j < i then j else i)))
  | _ => False
def rMax2 : List V → Hp → VK → Prop := fun xs H Q => ∃ i j, xs = [.int i, .int j] ∧ Q (.int (if j > i then j else i)) H
def rMin2 : List V → Hp → VK → Prop := fun xs H Q => ∃ i j, xs = [.int i, .int j] ∧ Q (.int (if j < i then j else i)) H
theorem bn_max2 {K : PySem.W.Frag} : BN K rMax2 fMax2 := ⟨fun ds k hf G F ρ σ H vs R hd r kk => by
  unfold fMax2 at hf
  split at hf
  · obtain ⟨x, r', e, rx, y, r2, e2, ry, e3⟩ := r
    cases e3
    cases (show x = V.int _ from rx)
    cases (show y = V.int _ from ry)
    subst e e2
    exact ⟨_, _, rfl, hd.ret kk (d := .int _) rfl hf⟩
  · exact hf.elim⟩
theorem bn_min2 {K : PySem.W.Frag} : BN K rMin2 fMin2 := ⟨fun ds k hf G F ρ σ H vs R hd r kk => by
  unfold fMin2 at hf
  split at hf
  · obtain ⟨x, r', e, rx, y, r2, e2, ry, e3⟩ := r
    cases e3
    cases (show x = V.int _ from rx)
    cases (show y = V.int _ from ry)
    subst e e2
    exact ⟨_, _, rfl, hd.ret kk (d := .int _) rfl hf⟩
  · exact hf.elim⟩
theorem x_max2 {q : TDA} (hc : X.calm = true) (hm : X.mg "max" = none) (ha : DA K X E (e :: es) tl q) (hg : Gl X "max" := by rfl) (he : starEach (e :: es) X.env = (false, eval e X.env) :: starEach es X.env := by rfl) (hpl : (backTo pos (starEach es X.env)).any (·.1) = false := by rfl) :
    DE K X E (.Call (.Name "max" p) (e :: es) [] pos) (tCB rMax2 tl) (bCN fMax2 q) := by
  cases ha.hK
  exact x_cBN (call_max2 hc) bn_max2 hm (by decide +kernel) ha hg (by decide) (by decide) he hpl
theorem x_min2 {q : TDA} (hc : X.calm = true) (hm : X.mg "min" = none) (ha : DA K X E (e :: es) tl q) (hg : Gl X "min" := by rfl) (he : starEach (e :: es) X.env = (false, eval e X.env) :: starEach es X.env := by rfl) (hpl : (backTo pos (starEach es X.env)).any (·.1) = false := by rfl) :
    DE K X E (.Call (.Name "min" p) (e :: es) [] pos) (tCB rMin2 tl) (bCN fMin2 q) := by
  cases ha.hK
  exact x_cBN (call_min2 hc) bn_min2 hm (by decide +kernel) ha hg (by decide) (by decide) he hpl
/-- sorted(xs) of ints -/
def fSorted : T → (T → Prop) → Prop := fun τ k => match τ with
  | .fz (.lst ds) => ExG (fun ns : List Int => ds = ns.map .int) fun ns => ∀ ms : List Int, ms.Perm ns → ms.Pairwise (· ≤ ·) → k (.ls (fzs (ms.map .int)))
  | .ls ts => ExG (fun ns : List Int => ts = fzs (ns.map .int)) fun ns => ∀ ms : List Int, ms.Perm ns → ms.Pairwise (· ≤ ·) → k (.ls (fzs (ms.map .int)))
  | _ => False
theorem b1_sorted {K : PySem.W.Frag} : B1 K (r1 (rSortedI K)) fSorted := ⟨fun τ k hf G F ρ σ H v Ov R rt so hd kk => by
  unfold fSorted at hf
  split at hf
  · obtain ⟨ns, e0, hf⟩ := hf
    subst e0
    obtain ⟨a, xs, e, g, r⟩ := hd.lst rt
    subst e
    have ex := reps_ints r
    subst ex
    exact ⟨a, ns, rfl, SqL.of g, fun ms q pm pw => hd.retL kk ints_reps (hf ms pm pw) q⟩
  · obtain ⟨ns, e0, hf⟩ := hf
    subst e0
    obtain ⟨a, xs, O', e, g, n, z, r⟩ := rt.ls
    subst e
    have ex := reps_ints (rep_fzs r)
    subst ex
    exact ⟨a, ns, rfl, SqL.of (so _ _ g), fun ms q pm pw => hd.retL kk ints_reps (hf ms pm pw) q⟩
  · exact hf.elim⟩
theorem x_sorted {q : TDA} (hm : X.mg "sorted" = none) (ha : DA K X E (e :: es) tl q) (hg : Gl X "sorted" := by rfl) (he : starEach (e :: es) X.env = (false, eval e X.env) :: starEach es X.env := by rfl) (hpl : (backTo pos (starEach es X.env)).any (·.1) = false := by rfl) :
    DE K X E (.Call (.Name "sorted" p) (e :: es) [] pos) (tCB (rSortedI K) tl) (bC1 fSorted q) := by
  cases ha.hK
  exact x_cB1 cr_sortedI b1_sorted hm (by decide +kernel) ha hg (by decide) (by decide) he hpl
/-! subscripts, slices -/
theorem x_ix {s : TDE} {t : TDD} (ha : DE K X E a ta s) (hb : DD K X E b tb t) (hs : PlainIx b := by exact fun _ _ => rfl) : DE K X E (.Subscript a b pos) (tOp (rIx K) ta tb) (bOp fIx s t) := by
  cases ha.hK
  exact ⟨rfl, pe_ix ix_seq ha.pe hb.pe hs, le_op1 b2_ix ha.le hb.ld⟩
theorem x_ixV {x : Str} {p2 : Pos} {t : TDD} (ha : PE X (.Name x p2) (tVar i)) (hb : DD K X E b tb t) (hs : PlainIx b := by exact fun _ _ => rfl) : DE K X E (.Subscript (.Name x p2) b pos) (tOp (rIx K) (tVar i) tb) (bOpV fIx i t) := by
  cases hb.hK
  exact ⟨rfl, pe_ix ix_seq ha hb.pe hs, le_op1V b2_ix hb.ld⟩
structure DO (K : PySem.W.Frag) (X : Cx) (E : EK) (e : Option Expr) (te : TO) (t : TDO) : Prop where
  hK : X.K = K
  po : PO X e te
  lo : LO K E te t
theorem o_none (hK : X.K = K := by rfl) : DO K X E none tNoPart dNoPart := by
  cases hK
  exact ⟨rfl, po_none, lo_none⟩
theorem o_some {s : TDD} (h : DD K X E e te s) : DO K X E (some e) (tPart te) (dPart s) := by
  cases h.hK
  exact ⟨rfl, po_some h.pe, lo_some h.ld⟩
variable {lo hi : Option Expr} {t1 t2 : TO} {p2 p3 : Pos}
theorem x_sl {s : TDE} {u v : TDO} (ha : DE K X E a ta s) (h1 : DO K X E lo t1 u) (h2 : DO K X E hi t2 v) : DE K X E (.Subscript a (.Slice lo hi none p2) pos) (tSl (rSlG K) ta t1 t2) (dSl s u v) := by
  cases ha.hK
  exact ⟨rfl, pe_slice sl_G ha.pe h1.po h2.po, le_sl ha.le h1.lo h2.lo⟩
theorem x_slV {x : Str} {u v : TDO} (ha : PE X (.Name x p3) (tVar i)) (h1 : DO K X E lo t1 u) (h2 : DO K X E hi t2 v) : DE K X E (.Subscript (.Name x p3) (.Slice lo hi none p2) pos) (tSl (rSlG K) (tVar i) t1 t2) (dSlV i u v) := by
  cases h1.hK
  exact ⟨rfl, pe_slice sl_G ha h1.po h2.po, le_slV h1.lo h2.lo⟩
/-- x[lo::c] of data -/
def fStep (c : Nat) : D → Option Int → (T → Prop) → Prop := fun d lo k => match d with
  | .lst ds => k (.ls (fzs (pick ds (HT.sIx ds.length 0 lo) c)))
  | .tup ds => k (.fz (.tup (pick ds (HT.sIx ds.length 0 lo) c)))
  | _ => False
def dStep (c : Nat) (s : TDD) (u : TDO) (ρ : Dl.Env) (Q : T → Dl.Env → Prop) (QX : XQ) : Prop := s ρ (fun d ρ1 => u ρ1 (fun lo ρ2 => fStep c d lo fun τ => Q τ ρ2) QX) QX
theorem le_step {K : PySem.W.Frag} {c : Nat} {s : TDD} {u : TDO} (ha : LD K E ta s) (hl : LO K E t1 u) : LE K E (tStep K c ta t1) (dStep c s u) := ⟨fun ρ Q QX ht G F σ H R hd k kx =>
  ha.run ρ _ QX ht G F σ H _ hd (fun G1 H1 d ρ1 v s1 hd1 r1 q1 => hl.run ρ1 _ QX q1 G1 F σ H1 _ hd1 (fun G2 H2 lo ρ2 s2 hd2 q2 => by
    have kk : ∀ G' H' τ v, Sub G2 G' → HdT K G' F τ v ρ2 σ H' → Q τ ρ2 → R v H' := fun G' H' τ v s => k G' H' τ ρ2 v (s1.trans (s2.trans s))
    have r2 := r1.mono s2
    unfold fStep at q2
    split at q2
    · obtain ⟨a, xs, e, g, r⟩ := hd2.lst r2
      refine ⟨a, xs, e, .inl ⟨SqL.of g, ?_⟩⟩
      rw [← r.length]
      exact hd2.retL (k := fun τ => Q τ ρ2) kk (r.pick _ _) q2
    · obtain ⟨a, xs, e, g, r⟩ := hd2.tup r2
      refine ⟨a, xs, e, .inr ⟨g, ?_⟩⟩
      rw [← r.length]
      exact hd2.retT (k := fun τ => Q τ ρ2) kk (r.pick _ _) q2
    · exact q2.elim) (kx.mono s1)) kx⟩
theorem x_step {s : TDD} {u : TDO} {cc k : Nat} (hc : 1 < cc) (ha : DD K X E a ta s) (h1 : DO K X E lo t1 u)
    (hx : ∀ v a, ∃ ops, subscripted (.Slice lo none (some (.Constant (.int cc) k p)) p3) false v (.ref a) = operate ops (getItem v (.ref a)) := by (intro _ _; exact ⟨_, by with_unfolding_all rfl⟩)) :
    DE K X E (.Subscript a (.Slice lo none (some (.Constant (.int cc) k p)) p3) pos) (tStep K cc ta t1) (dStep cc s u) := by
  cases ha.hK
  exact ⟨rfl, pe_step hc ha.pe h1.po hx, le_step ha.ld h1.lo⟩
end
end Dl

set_option maxHeartbeats 1000000
namespace Dl
open PySem PySem.Spec PyProof.Rows RT
section
variable {prog : Program} {w : World} {A : Around} {E : Value → Shared → Prop} {s : Shared}
theorem extend_rev {R : Result → Shared → Prop} {it l : Addr} {items : Array Value} (hh : A.handled = none) (hit : s.heap.IsRevIter it l ((items.size : Int) - 1)) (hl : s.heap.IsList l items) (hne : l ≠ it) (hn : items.size ≤ sizeLine)
    (S : Addr) (res : Value) (c₀ : Nat) (hS : s.heap.get? S = some { cls := .type "list", data := .seq #[] c₀ }) (hSi : S ≠ it) (hSl : S ≠ l)
    (hR : ∀ h' tk acc' c', (∀ b o, b ≠ S → b ≠ it → s.heap.get? b = some o → h'.get? b = some o) → h'.get? S = some { cls := .type "list", dict := none, data := .seq acc' c', slots := #[] } →
      ItemsOf (fun i v => items[items.size - 1 - i]? = some v) acc' items.size → R (.ok (.ret res)) { s with heap := h', toks := tk }) :
    wpAny (model prog w) A.in1 (Builtin.List.listExtendWith (.ref S) (.ref it) res)
      (fun fin s' => match fin with | .done f => R (.ok f) s' | .again c' => c'.quiet = true ∧ codeAny (model prog w) A c' R s') (fun e s' => R (.error e) s') s := by
  have W := (Walks.listRev (prog := prog) (w := w) (A := A.in1) hh it l hne items).toS
  have hSf : S ∉ [it, l] := by simp only [List.mem_cons, List.not_mem_nil, or_false, not_or]; exact ⟨hSi, hSl⟩
  have hT : s.TypeIs (.ref it) "list_reverseiterator" := hit.typeIs
  have h1 : Builtin.List.listSameRef (.ref S) (.ref it) = false := by simp [Builtin.List.listSameRef, hSi]
  unfold Builtin.List.listExtendWith
  refine wpAny_bind (wpAny_typeOf hT ?_)
  rw [if_neg (by rw [h1]; decide)]
  refine wpAny_bind (wpAny_pyIter_revIter hit ?_)
  refine wpAny_bind (wpAny_holding ?_)
  unfold Builtin.List.listLengthHint
  refine wpAny_bind (wpAny_specialOf hT nolen_lri ?_)
  show wpAny _ A.in1 (specialOf (Value.ref it) (Str.ofString "__length_hint__") >>= _) _ _ _
  refine wpAny_bind (wpAny_specialOf hT hint_lri ?_)
  generalize hid : ("list_reverseiterator.__length_hint__" : String) = id0
  wp_delta
  rw [show splitId id0 = some ("list_reverseiterator", "__length_hint__") from by subst hid; decide +kernel]
  subst hid
  refine wpAny_bind (wpAny_isInstance (b := true) hT (by rw [isSubtype_type]; kernel_rfl) ?_)
  refine wpAny_pure ?_
  rw [if_neg (by decide)]
  have e0 : ((items.size : Nat) : Int) - 1 - ((0 : Nat) : Int) = (items.size : Int) - 1 := by omega
  refine wpAny_pure ⟨plainId_quiet F.plain_extend_loop _, codeAny_extend_loopS W hn S hSf _ items.size 0 _ _ _ rfl (Nat.zero_le _) ⟨Nat.zero_le _, by rw [e0]; exact hit, hl⟩ hS (ItemsOf.nil _) fun s' acc' c' hm hS' hacc => ?_⟩
  rw [Moved.eq_with hm]
  refine hR s'.heap s'.toks acc' c' (fun b o hb hb2 e => hm.heap b o (fun hmem => ?_) e) hS' hacc
  rcases List.mem_cons.mp hmem with e' | hmem
  · exact hb e'
  · exact hb2 (List.mem_singleton.mp hmem)
theorem call_list_rev {it l : Addr} {items : Array Value} {Q : Value → Shared → Prop} (hh : A.handled = none) (hit : s.heap.IsRevIter it l ((items.size : Int) - 1)) (hl : s.heap.IsList l items) (hne : l ≠ it) (hn : items.size ≤ sizeLine)
    (hQ : ∀ h' tk acc' c', (∀ b o, b ≠ it → s.heap.get? b = some o → h'.get? b = some o) →
      h'.get? s.heap.objs.size = some { cls := .type "list", dict := none, data := .seq acc' c', slots := #[] } → ItemsOf (fun i v => items[items.size - 1 - i]? = some v) acc' items.size → Q (.ref s.heap.objs.size) { s with heap := h', toks := tk }) :
    wpAny (model prog w) A (call (.type "list") [.ref it]) Q E s := by
  obtain ⟨oi, hoi, _⟩ := id hit
  obtain ⟨ol, hol, _⟩ := id hl
  have hSi : s.heap.objs.size ≠ it := Nat.ne_of_gt (Heap.lt_size hoi)
  have hSl : s.heap.objs.size ≠ l := Nat.ne_of_gt (Heap.lt_size hol)
  refine callType_codes (Q₁ := fun obj s₁ => obj = .ref s.heap.objs.size ∧ s₁ = { s with heap := s.heap.push { cls := .type "list", data := .seq #[] } }) F.called_list (F.typeCall_list_1 _) F.entry_list_init
    (code_list_new _ ⟨rfl, rfl⟩) fun obj s₁ h₁ => ?_
  obtain ⟨rfl, rfl⟩ := h₁
  have hS : (s.heap.push { cls := .type "list", data := .seq #[] }).get? s.heap.objs.size = some { cls := .type "list", data := .seq #[] } := Heap.get?_push_size _ rfl
  refine ⟨⟨_, hS, rfl⟩, F.args_list_init_2 _ _, ?_⟩
  show wpAny _ _ (do let old ← Builtin.List.listItems (.ref s.heap.objs.size); Builtin.List.listUpdate (.ref s.heap.objs.size) (fun _ => #[]); letGo old.toList.reverse; Builtin.List.listExtendWith (.ref s.heap.objs.size) (.ref it) .none) _ _ _
  refine wpAny_bind ?_
  unfold Builtin.List.listItems
  refine wpAny_bind (wpAny_seqItems hS rfl (wpAny_pure ?_))
  show wpAny _ _ (updateSeq s.heap.objs.size (fun _ => #[]) >>= fun _ => letGo (#[] : Array Value).toList.reverse >>= fun _ => Builtin.List.listExtendWith (.ref s.heap.objs.size) (.ref it) .none) _ _ _
  refine wpAny_bind (wpAny_updateSeq hS rfl ?_)
  have hS₂ := Heap.get?_update_self (Obj.mapSeq (fun _ => (#[] : Array Value))) hS rfl
  have oth : ∀ b o, b ≠ s.heap.objs.size → s.heap.get? b = some o → ((s.heap.push { cls := .type "list", data := .seq #[] }).update s.heap.objs.size (Obj.mapSeq (fun _ => (#[] : Array Value)))).get? b = some o :=
    fun b o hb e => (Heap.get?_update_other _ _ (Ne.symm hb)).trans (Heap.get?_push_of_some _ e)
  refine wpAny_bind (wpAny_letGo ?_)
  refine extend_rev (A := A.in1) hh (hit.at fun o e => oth it o (Ne.symm hSi) e) ?_ hne hn s.heap.objs.size .none _ hS₂ hSi hSl fun h' tk acc' c' hk hS' hacc => ?_
  · obtain ⟨o, a, b, n, c⟩ := hl
    exact ⟨o, oth l o (Ne.symm hSl) a, b, n, c⟩
  · exact ⟨rfl, hQ h' tk acc' c' (fun b o hb e => hk b o (Nat.ne_of_lt (Heap.lt_size e)) hb (oth b o (Nat.ne_of_lt (Heap.lt_size e)) e)) hS' hacc⟩
end
end Dl
namespace Dl
open PySem L2 RT
/-- list(reversed(x)), x a list: a new list -/
def tLstRev (K : PySem.W.Frag) (te : TE) : TE := fun σ H Q => te σ H fun v H1 => ∃ (a : Addr) (xs : List V), v = .ref a ∧ SqL K H1 a xs ∧ ∀ q, H1 q = none → Q (.ref q) (upd H1 q (.lst xs.reverse))
section
variable {X : Cx}
/-- a record of ours turned, a new object laid and tracked -/
theorem laidBut {pins : List (Addr × Obj)} {σ : St} {H : Hp} {s : Shared} {h' : Heap} {t' : Nat} {it a : Addr} {o : HO} (I : Inv X pins σ H s) (k : ∀ b o, b ≠ it → s.heap.get? b = some o → h'.get? b = some o) (hn : H it = none) (hL : it ≠ X.env.locals)
    (h1 : it ∈ X.ex ∨ X.s_0.heap.objs.size ≤ it) (h2 : ∀ x c, X.env.cells.lookup x = some c → c ≠ it) (h3 : ∀ p ∈ X.pn ++ pins, p.1 ≠ it) (hp : s.heap.objs.size ≤ a) (new : ObjOk X.prog X.w (upd H a o) h' a o) :
    Inv X pins σ (upd H a o) { s with heap := h', toks := t' } := by
  have na : H a = none := I.hok.fresh hp
  have nit : ∀ b u, H b = some u → b ≠ it := fun b u e z => by rw [z, hn] at e; cases e
  have ne : ∀ b u, H b = some u → b ≠ a := fun b u e => ne_of_none e na
  refine I.step (g' := s.gens) (d' := s.drawn) (ch := [it]) (fun b hb => ?_) (fun b o _ _ hc e _ => k b o (fun z => hc (by simp [z])) e) (fun b o _ _ hc e _ => ⟨o.slots, k b o (fun z => hc (by simp [z])) e⟩)
    (fun b o _ e n => by rw [upd_ne (Nat.ne_of_lt (Nat.lt_of_lt_of_le (Heap.lt_size e) hp))]; exact n)
    (fun b o hc e => ⟨o, k b o (fun z => hc (by simp [z])) e⟩) (fun b xs e => by rw [upd_ne (ne _ _ e)]; exact e) (fun b o u e => by rw [upd_ne (ne _ _ e)]; exact e) (fun b ps e => ⟨#[], by rw [upd_ne (ne _ _ e), e]; simp⟩) (fun m hm => ?_) (fun b u e => ?_) I.bare
  · have e : b = it := by simpa using hb
    subst e
    exact ⟨h1, hL, h2, h3⟩
  · obtain ⟨o, es, ep, ho, r⟩ := hm
    exact ⟨o, es, ep, k _ o (Ne.symm hL) ho, r⟩
  · by_cases hb : b = a
    · subst hb; rw [upd_same] at e; cases e; exact new
    · rw [upd_ne hb] at e
      refine (I.hok b u e).stay (fun c v hc q => k c v ?_ q) (fun c q => by rw [upd_ne (ne _ _ q)]; exact q) fun c xs q => by rw [upd_ne (ne _ _ q)]; exact q
      rcases hc with z | z
      · rw [z]; exact nit b u e
      · exact nit c _ z
open PyProof.Rows in
theorem pe_lstRev {e : Expr} {te : TE} {p p2 pos pos2 : Pos} (hc : X.calm = true) (hg : Gl X "list") (hm : X.mg "list" = none) (hg2 : Gl X "reversed") (hm2 : X.mg "reversed" = none) (he : PE X e te)
    (hs : starEach [e] X.env = (false, eval e X.env) :: starEach [] X.env := by rfl)
    (hs2 : starEach [.Call (.Name "reversed" p2) [e] [] pos2] X.env = (false, eval (.Call (.Name "reversed" p2) [e] [] pos2) X.env) :: starEach [] X.env := by rfl) :
    PE X (.Call (.Name "list" p) [.Call (.Name "reversed" p2) [e] [] pos2] [] pos) (tLstRev X.K te) := by
  refine ⟨fun pins s σ H Q I h => ?_⟩
  refine Call_ (ld_blt I hg hm boot_list (PyProof.Rows.callWith_type1 (args_cons (Call_ (ld_blt I hg2 hm2 PyProof.Rows.boot_reversed (PyProof.Rows.callWith_type1 (args_cons (thn (he.run pins s σ H _ I h) fun u s1 ⟨v, H1, I1, r1, q1⟩ => args_nil ?_) hs) hs rfl))) hs2) hs2 rfl))
  obtain ⟨a, xs, ev, hq, q⟩ := q1
  subst ev
  obtain rfl : u = Value.ref a := r1
  obtain ⟨its, rv, p', hz⟩ := I1.list hq
  refine call_reversed_list p'.isList (args_nil ?_)
  have k0 : ∀ b o, s1.heap.get? b = some o → (s1.heap.push (revObj a ((its.toArray.size : Int) - 1))).get? b = some o := fun b o e => Heap.get?_push_of_some _ e
  have I2 : Inv X pins σ H1 { s1 with heap := s1.heap.push (revObj a ((its.toArray.size : Int) - 1)) } := I1.kept (t' := s1.toks) k0
  obtain ⟨f0, f1, f2, f3, f4, f5⟩ := I1.fpOk (H' := H1) (b := s1.heap.objs.size) (Nat.le_refl _) (I1.hok.fresh (Nat.le_refl _))
  have hl := p'.isList
  obtain ⟨ol, hol, _⟩ := id hl
  have hne : a ≠ s1.heap.objs.size := Nat.ne_of_lt (Heap.lt_size hol)
  have hn : its.toArray.size ≤ sizeLine := by rw [List.size_toArray, ← rv.length]; exact hz
  refine call_list_rev (s := { s1 with heap := s1.heap.push (revObj a ((its.toArray.size : Int) - 1)) }) (I1.ok.hd hc) ⟨_, Heap.get?_push_size _ rfl, rfl, rfl⟩ (hl.push _) hne hn fun h' tk acc c' hk e' hi => ?_
  exact ⟨.ref _, _, laidBut (t' := tk) (o := .lst xs.reverse) I2 (fun b o hb e => hk b o hb e) f0 f1 f3 f4 f5 (Nat.le_refl _) ⟨by rw [List.length_reverse]; exact hz, acc.toList, c', vals_rev rv hi, by rw [Array.toArray_toList]; exact e'⟩, rfl, q _ (I2.hok.fresh (Nat.le_refl _))⟩
end
end Dl

namespace Dl
open PySem L2 PySem.Spec

section
variable {X : Cx} {E : EK} {a b c e : Expr} {ta tb tc te : TE} {pos cpos apos : Pos} {i : Nat} {es : List Expr} {tl : TA} {p p2 p3 : Pos}
/-! methods of an owned list in a slot -/
theorem x_append {x : Str} {r : TDA} (hv : PE X (.Name x p2) (tVar i)) (ha : DA K X E (e :: es) tl r)
    (hbase : attributeBase (.Name x p2) "append" X.env (eval (.Name x p2) X.env) = eval (.Name x p2) X.env := by rfl)
    (hfew : ((backTo cpos (starEach (e :: es) X.env)).all (fun x => !x.1) && (backToKw cpos (keywordEach [] X.env)).all (fun x => x.1.isSome) && decide ((e :: es).length + ([] : List Keyword).length + (if ([] : List Keyword).isEmpty then 0 else 1) < 30)) = true := by rfl)
    (hline : (apos.endLine == cpos.line) = true := by rfl) (hs : starEach (e :: es) X.env = (false, eval e X.env) :: starEach es X.env := by rfl) (hplain : (backTo cpos (starEach es X.env)).any (·.1) = false := by rfl) :
    DD K X E (.Call (.Attribute (.Name x p2) "append" apos) (e :: es) [] cpos) (tBM K "list" rAppend (tVar i) tl) (bMut fAppend i r) := by
  cases ha.hK
  exact ⟨rfl, pe_bm PySem.F.plainAttrs_list PySem.F.slot_list_append PySem.F.type_list_append mt_append hv ha.pa hbase hfew hline hs hplain, ld_mut mu_append ha.la⟩
theorem x_extend {x : Str} {r : TDA} (hv : PE X (.Name x p2) (tVar i)) (ha : DA K X E (e :: es) tl r)
    (hbase : attributeBase (.Name x p2) "extend" X.env (eval (.Name x p2) X.env) = eval (.Name x p2) X.env := by rfl)
    (hfew : ((backTo cpos (starEach (e :: es) X.env)).all (fun x => !x.1) && (backToKw cpos (keywordEach [] X.env)).all (fun x => x.1.isSome) && decide ((e :: es).length + ([] : List Keyword).length + (if ([] : List Keyword).isEmpty then 0 else 1) < 30)) = true := by rfl)
    (hline : (apos.endLine == cpos.line) = true := by rfl) (hs : starEach (e :: es) X.env = (false, eval e X.env) :: starEach es X.env := by rfl) (hplain : (backTo cpos (starEach es X.env)).any (·.1) = false := by rfl) :
    DD K X E (.Call (.Attribute (.Name x p2) "extend" apos) (e :: es) [] cpos) (tBM K "list" rExtend (tVar i) tl) (bMut fExtend i r) := by
  cases ha.hK
  exact ⟨rfl, pe_bm PySem.F.plainAttrs_list PySem.F.slot_list_extend PySem.F.type_list_extend mt_extend hv ha.pa hbase hfew hline hs hplain, ld_mut mu_extend ha.la⟩
theorem x_popAt {x : Str} {r : TDA} (hv : PE X (.Name x p2) (tVar i)) (ha : DA K X E (e :: es) tl r)
    (hbase : attributeBase (.Name x p2) "pop" X.env (eval (.Name x p2) X.env) = eval (.Name x p2) X.env := by rfl)
    (hfew : ((backTo cpos (starEach (e :: es) X.env)).all (fun x => !x.1) && (backToKw cpos (keywordEach [] X.env)).all (fun x => x.1.isSome) && decide ((e :: es).length + ([] : List Keyword).length + (if ([] : List Keyword).isEmpty then 0 else 1) < 30)) = true := by rfl)
    (hline : (apos.endLine == cpos.line) = true := by rfl) (hs : starEach (e :: es) X.env = (false, eval e X.env) :: starEach es X.env := by rfl) (hplain : (backTo cpos (starEach es X.env)).any (·.1) = false := by rfl) :
    DD K X E (.Call (.Attribute (.Name x p2) "pop" apos) (e :: es) [] cpos) (tBM K "list" rPopAt (tVar i) tl) (bMut fPopAt i r) := by
  cases ha.hK
  exact ⟨rfl, pe_bm PySem.F.plainAttrs_list PySem.F.slot_list_pop PySem.F.type_list_pop mt_popAt hv ha.pa hbase hfew hline hs hplain, ld_mut mu_popAt ha.la⟩
theorem x_insert {x : Str} {r : TDA} (hv : PE X (.Name x p2) (tVar i)) (ha : DA K X E (e :: es) tl r)
    (hbase : attributeBase (.Name x p2) "insert" X.env (eval (.Name x p2) X.env) = eval (.Name x p2) X.env := by rfl)
    (hfew : ((backTo cpos (starEach (e :: es) X.env)).all (fun x => !x.1) && (backToKw cpos (keywordEach [] X.env)).all (fun x => x.1.isSome) && decide ((e :: es).length + ([] : List Keyword).length + (if ([] : List Keyword).isEmpty then 0 else 1) < 30)) = true := by rfl)
    (hline : (apos.endLine == cpos.line) = true := by rfl) (hs : starEach (e :: es) X.env = (false, eval e X.env) :: starEach es X.env := by rfl) (hplain : (backTo cpos (starEach es X.env)).any (·.1) = false := by rfl) :
    DD K X E (.Call (.Attribute (.Name x p2) "insert" apos) (e :: es) [] cpos) (tBM K "list" rInsert (tVar i) tl) (bMut fInsert i r) := by
  cases ha.hK
  exact ⟨rfl, pe_bm PySem.F.plainAttrs_list PySem.F.slot_list_insert PySem.F.type_list_insert mt_insert hv ha.pa hbase hfew hline hs hplain, ld_mut mu_insert ha.la⟩
theorem x_pop0 {x : Str} (hv : PE X (.Name x p2) (tVar i)) (hbase : attributeBase (.Name x p2) "pop" X.env (eval (.Name x p2) X.env) = eval (.Name x p2) X.env := by rfl) (hline : (apos.endLine == cpos.line) = true := by rfl) (hK : X.K = K := by rfl) :
    DD K X E (.Call (.Attribute (.Name x p2) "pop" apos) [] [] cpos) (tBM0 K "list" rPop (tVar i)) (bMut fPop i fun ρ Q _ => Q [] ρ) := by
  cases hK
  exact ⟨rfl, pe_bm0 PySem.F.plainAttrs_list PySem.F.slot_list_pop PySem.F.type_list_pop mt_pop hv hbase hline, ld_mut0 mu_pop⟩
/-! list(range(..)), list(reversed(..)) -/
abbrev TRD := Env → (Int → Int → Env → Prop) → XQ → Prop
structure LR (K : PySem.W.Frag) (E : EK) (te : St → Hp → (Int → Int → Hp → Prop) → Prop) (t : TRD) : Prop where
  run : ∀ ρ Q QX, t ρ Q QX → ∀ G F σ H R, Hd K G F ρ σ H → (∀ G' H' x y ρ', Sub G G' → Hd K G' F ρ' σ H' → Q x y ρ' → R x y H') → OnX K E G F σ QX → te σ H R
structure DR (K : PySem.W.Frag) (X : Cx) (E : EK) (e : Expr) (te : St → Hp → (Int → Int → Hp → Prop) → Prop) (t : TRD) : Prop where
  hK : X.K = K
  pr : PRg X e te
  lr : LR K E te t
def dR1 (s : TDD) (ρ : Dl.Env) (Q : Int → Int → Dl.Env → Prop) (QX : XQ) : Prop := s ρ (fun d ρ1 => match d with
  | .int n => Q 0 n ρ1
  | _ => False) QX
def dR2 (s t : TDD) (ρ : Dl.Env) (Q : Int → Int → Dl.Env → Prop) (QX : XQ) : Prop := s ρ (fun d ρ1 => t ρ1 (fun d2 ρ2 => match d, d2 with
  | .int n, .int m => Q n m ρ2
  | _, _ => False) QX) QX
theorem lr_1 {K : PySem.W.Frag} {s : TDD} (h : LD K E ta s) : LR K E (tRg1 ta) (dR1 s) := ⟨fun ρ Q QX ht G F σ H R hd k kx =>
  h.run ρ _ QX ht G F σ H _ hd (fun G1 H1 d ρ1 v s1 hd1 r1 q1 => by
    split at q1
    · exact ⟨_, r1, k G1 H1 _ _ ρ1 s1 hd1 q1⟩
    · exact q1.elim) kx⟩
theorem lr_2 {K : PySem.W.Frag} {s t : TDD} (h : LD K E ta s) (g : LD K E tb t) : LR K E (tRg2 ta tb) (dR2 s t) := ⟨fun ρ Q QX ht G F σ H R hd k kx =>
  h.run ρ _ QX ht G F σ H _ hd (fun G1 H1 d ρ1 v s1 hd1 r1 q1 => g.run ρ1 _ QX q1 G1 F σ H1 _ hd1 (fun G2 H2 d2 ρ2 v2 s2 hd2 r2 q2 => by
    split at q2
    · exact ⟨_, _, r1, r2, k G2 H2 _ _ ρ2 (s1.trans s2) hd2 q2⟩
    · exact q2.elim) (kx.mono s1)) kx⟩
theorem r_1 {s : TDD} (hm : X.mg "range" = none) (h : DD K X E a ta s) (hg : Gl X "range" := by rfl) (na : starEach [a] X.env = (false, eval a X.env) :: starEach [] X.env := by rfl) : DR K X E (.Call (.Name "range" p) [a] [] pos) (tRg1 ta) (dR1 s) := by
  cases h.hK
  exact ⟨rfl, prg_1 hg hm h.pe na, lr_1 h.ld⟩
def dLstRg (s : TRD) (ρ : Dl.Env) (Q : T → Dl.Env → Prop) (QX : XQ) : Prop := s ρ (fun x y ρ1 => RgOk x y ∧ Q (.ls (fzs (rngD x (y - x).toNat))) ρ1) QX
theorem rngD_rep {K : PySem.W.Frag} {G : Hp} (x : Int) (n : Nat) : Reps K G (rngD x n) ((List.range n).map fun i => V.int (x + (i : Nat))) := by
  unfold rngD
  generalize List.range n = l
  induction l with
  | nil => rfl
  | cons m l ih => exact ⟨_, _, rfl, rfl, ih⟩
theorem le_lstRg {K : PySem.W.Frag} {t : St → Hp → (Int → Int → Hp → Prop) → Prop} {s : TRD} (h : LR K E t s) : LE K E (tLstRg t) (dLstRg s) := ⟨fun ρ Q QX ht G F σ H R hd k kx =>
  h.run ρ _ QX ht G F σ H _ hd (fun G1 H1 x y ρ1 s1 hd1 q1 => ⟨q1.1, hd1.retL (k := fun τ => Q τ ρ1) (fun G' H' τ v s => k G' H' τ ρ1 v (s1.trans s)) (rngD_rep x _) q1.2⟩) kx⟩
theorem x_listRg {t : St → Hp → (Int → Int → Hp → Prop) → Prop} {s : TRD} (hc : X.calm = true) (hm : X.mg "list" = none) (h : DR K X E a t s) (hg : Gl X "list" := by rfl) (na : starEach [a] X.env = (false, eval a X.env) :: starEach [] X.env := by rfl) : DE K X E (.Call (.Name "list" p) [a] [] pos) (tLstRg t) (dLstRg s) := by
  cases h.hK
  exact ⟨rfl, pe_listRg hc hg hm h.pr na, le_lstRg h.lr⟩
def fRev : T → (T → Prop) → Prop := fun τ k => match τ with
  | .fz (.lst ds) => k (.ls (fzs ds.reverse))
  | .ls ts => ExG (fun ds => ts = fzs ds) fun ds => k (.ls (fzs ds.reverse))
  | _ => False
def rRev (K : PySem.W.Frag) : V → Hp → VK → Prop := fun v H Q => ∃ (a : Addr) (xs : List V), v = .ref a ∧ SqL K H a xs ∧ ∀ q, H q = none → Q (.ref q) (upd H q (.lst xs.reverse))
theorem b1_rev {K : PySem.W.Frag} : B1 K (rRev K) fRev := ⟨fun τ k hf G F ρ σ H v Ov R rt so hd kk => by
  unfold fRev at hf
  split at hf
  · obtain ⟨a, xs, e, g, r⟩ := hd.lst rt
    exact ⟨a, xs, e, SqL.of g, hd.retL kk r.reverse hf⟩
  · obtain ⟨ds, e0, hf⟩ := hf
    subst e0
    obtain ⟨a, xs, O', e, g, n, z, r⟩ := rt.ls
    exact ⟨a, xs, e, SqL.of (so _ _ g), hd.retL kk (rep_fzs r).reverse hf⟩
  · exact hf.elim⟩
theorem x_listRevV {x : Str} {pos2 : Pos} (hc : X.calm = true) (hm : X.mg "list" = none) (hm2 : X.mg "reversed" = none) (hv : PE X (.Name x p3) (tVar i)) (hg : Gl X "list" := by rfl) (hg2 : Gl X "reversed" := by rfl)
    (hs : starEach [.Name x p3] X.env = (false, eval (.Name x p3) X.env) :: starEach [] X.env := by rfl)
    (hs2 : starEach [.Call (.Name "reversed" p2) [.Name x p3] [] pos2] X.env = (false, eval (.Call (.Name "reversed" p2) [.Name x p3] [] pos2) X.env) :: starEach [] X.env := by rfl) (hK : X.K = K := by rfl) :
    DE K X E (.Call (.Name "list" p) [.Call (.Name "reversed" p2) [.Name x p3] [] pos2] [] pos) (tLstRev K (tVar i)) (bUnV fRev i) := by
  cases hK
  exact ⟨rfl, pe_lstRev hc hg hm hg2 hm2 hv hs hs2, (le_un1V b1_rev : LE X.K E (tUn (rRev X.K) (tVar i)) (bUnV fRev i))⟩
/-! isinstance(x, a built-in class) -/
def D.tyn : D → Option String
  | .non => some "NoneType"
  | .bl _ => some "bool"
  | .int _ => some "int"
  | .str _ => some "str"
  | .lst _ => some "list"
  | .tup _ => some "tuple"
  | .dk _ _ => some "dict"
  | .dt _ _ => some "dict"
  | .set _ _ => some "set"
  | _ => none
theorem tyn_sound {K : PySem.W.Frag} {G H O : Hp} {τ : T} {v : V} {n : String} (r : RepT K G τ v O) (so : Sub O H) (sg : Sub G H) (h : τ.d.tyn = some n) : TyX K H v (.type n) := by
  cases τ with
  | fz d =>
    cases d with
    | non => cases (show v = V.non from r); cases h; exact .base .non
    | bl b => cases (show v = V.bl b from r); cases h; exact .base (.bl b)
    | int b => cases (show v = V.int b from r); cases h; exact .base (.int b)
    | str b => cases (show v = V.str b from r); cases h; exact .base (.str b)
    | ty b => cases h
    | ref b => cases h
    | lst ds => obtain ⟨a, xs, e, g, _⟩ := r; subst e; cases h; exact .base (.lst (sg _ _ g))
    | tup ds =>
      obtain ⟨a, xs, e, g, _⟩ := r; subst e; cases h
      rcases SqT.sub sg g with (g | ⟨o, g⟩) | ⟨o, its, m, g, c, _⟩
      · exact .base (.tup g)
      · exact .fTuple g
      · exact .kTuple g c
    | sq ds => cases h
    | dk ks ds => obtain ⟨a, xs, e, g, _⟩ := r; subst e; cases h; exact .base (.dK (sg _ _ g))
    | dt ks ds => obtain ⟨a, xs, e, g, _⟩ := r; subst e; cases h; exact .base (.dT (sg _ _ g))
    | set S m => obtain ⟨a, e, g⟩ := r; subst e; cases h; exact .set (sg _ _ g)
    | obj C ns ds => cases h
  | ls ts => obtain ⟨a, xs, O', e, g, _⟩ := r; subst e; cases h; exact .base (.lst (so _ _ g))
  | dk ks ts => obtain ⟨a, xs, O', e, g, _⟩ := r; subst e; cases h; exact .base (.dK (so _ _ g))
  | dt ks ts => obtain ⟨a, xs, O', e, g, _⟩ := r; subst e; cases h; exact .base (.dT (so _ _ g))
  | st S m => obtain ⟨a, e, g⟩ := r; subst e; cases h; exact .set (so _ _ g)
  | ob C ns ts => cases h
def fIsi (n : String) : T → (T → Prop) → Prop := fun τ k => ExG (fun m => τ.d.tyn = some m) fun m => ExG (fun b => kitB m n = some b) fun b => k (.fz (.bl b))
theorem b1_isi {K : PySem.W.Frag} {n : String} : B1 K (fun x H Q => rIsi K [x, .ty n] H Q) (fIsi n) := ⟨fun τ k hf G F ρ σ H v Ov R rt so hd kk => by
  obtain ⟨m, e, b, hb, q⟩ := hf
  exact ⟨v, .ty n, .type m, .type n, b, rfl, .ty n, tyn_sound rt so hd.sl e, kit_ty hb, hd.ret kk (d := .bl b) rfl q⟩⟩
theorem x_isiV {x : Str} {nx : Str} {n : String} (hm : X.mg "isinstance" = none) (hv : PE X (.Name x p2) (tVar i)) (hmn : X.mg nx = none) (hbn : bootBuiltins nx = some (.type n)) (hgn : Gl X nx := by rfl) (hg : Gl X "isinstance" := by rfl) (hnn : nx ≠ "__name__" := by decide) (hdn : (nx == ("__debug__" : Str)) = false := by decide)
    (he : starEach [.Name x p2, .Name nx p3] X.env = (false, eval (.Name x p2) X.env) :: starEach [.Name nx p3] X.env := by rfl) (he2 : starEach [.Name nx p3] X.env = (false, eval (.Name nx p3) X.env) :: starEach [] X.env := by rfl) (hpl : (backTo pos (starEach [.Name nx p3] X.env)).any (·.1) = false := by rfl) (hK : X.K = K := by rfl) :
    DE K X E (.Call (.Name "isinstance" p) [.Name x p2, .Name nx p3] [] pos) (tCB (rIsi K) (tCons (tVar i) (tCons (tC (.ty n)) tNil))) (bUnV (fIsi n) i) := by
  cases hK
  exact ⟨rfl, pe_callB call_isi hg hm (by decide +kernel) (pa_cons hv (pa_cons (pe_bltn hgn hmn hbn rfl hnn hdn) pa_nil he2) he) (by decide) (by decide) he hpl, (le_un1V b1_isi : LE X.K E (tUn (fun x H Q => rIsi X.K [x, .ty n] H Q) (tVar i)) (bUnV (fIsi n) i))⟩
/-! calls of defs -/
variable {CX : CXT} {k : Nat} {f : Addr} {fd : FuncData} {ps : List Str} {ct : Ct} {dvs : List V} {ds : List Value} {E1 : XK}
theorem x_call {x : Str} {dds : List D} {r : TDA} (F : FnOk X.prog X.w K X.mg X.base CX k f fd ps (spOf K ct)) (hr : Room k X.A) (hm : X.mg x = some (.ref f)) (hk : PySem.W.keepIn K (.ref f) = true) (hb : Binds K fd ps ds) (hd : Vals dvs ds) (hx : Passes CX X E1) (rd : ∀ G, Reps K G dds dvs)
    (ha : DA K X (fun _ => E1) (e :: es) tl r) (hg : Gl X x := by rfl) (hdb : (x == ("__debug__" : Str)) = false := by decide) (he : starEach (e :: es) X.env = (false, eval e X.env) :: starEach es X.env := by rfl) (hpl : (backTo pos (starEach es X.env)).any (·.1) = false := by rfl) :
    DE K X (fun _ => E1) (.Call (.Name x p) (e :: es) [] pos) (tCall (spOf K ct) dvs E1 tl) (dCall ct r dds) := by
  cases ha.hK
  exact ⟨rfl, pe_call F hr hg hm hk hb hd hx ha.pa hdb he hpl, le_call ha.la rd⟩
/-- a def that raises nothing, all arguments written -/
theorem x_fn {x : Str} {r : TDA} (F : FnOk X.prog X.w K X.mg X.base CX0 k f fd ps (spOf K ct)) (hr : Room k X.A) (hm : X.mg x = some (.ref f)) (hk : PySem.W.keepIn K (.ref f) = true) (hb : Binds K fd ps [])
    (ha : DA K X (fun _ => E0) (e :: es) tl r) (hg : Gl X x := by rfl) (hdb : (x == ("__debug__" : Str)) = false := by decide) (he : starEach (e :: es) X.env = (false, eval e X.env) :: starEach es X.env := by rfl) (hpl : (backTo pos (starEach es X.env)).any (·.1) = false := by rfl) :
    DE K X (fun _ => E0) (.Call (.Name x p) (e :: es) [] pos) (tCall (spOf K ct) [] E0 tl) (dCall ct r []) := by
  cases ha.hK
  exact x_call F hr hm hk hb .nil pass0 (fun _ => rfl) ha hg hdb he hpl
/-! comprehensions -/
structure DTs (K : PySem.W.Frag) (X : Cx) (E : EK) (es : List Expr) (te : TT) (t : TDT) : Prop where
  hK : X.K = K
  pt : PTs X es te
  lt : LT K E te t
theorem t_nil (hK : X.K = K := by rfl) : DTs K X E [] tYes dYes := by
  cases hK
  exact ⟨rfl, pts_nil, ⟨fun ρ Q QX ht G F σ H R hd k kx => k G H true ρ Sub.refl hd ht⟩⟩
theorem t_one {tt : TT} {t : TDT} (h : DT K X E c tt t) : DTs K X E [c] tt t := by
  cases h.hK
  exact ⟨rfl, pts_one h.pt, h.lt⟩
variable {elt tg iter : Expr} {ifs : List Expr} {scope : Scope} {own : List (Str × Nat)} {wi : TI} {it : TID} {g : TG} {gd : TGD} {tt : TT} {t : TDT} {s : TDE}
theorem x_lc {vs : List Nat} (hc : X.calm = true) (hN : X.N.Nodup) (hi : DI K X E tg iter wi it) (ok : BlkOk X.N X.env.scope scope own)
    (hg : ∀ (s : Shared) (H : Hp) (C : Addr) (cl : List (Str × Addr)) (fp : List Addr) (σ0 : St), DG K (X.blk s H scope (compEnvC scope cl C X.env) fp) (fun _ => E0) (fun σ => wipe σ vs = wipe σ0 vs) tg g gd)
    (ht : ∀ (s : Shared) (H : Hp) (C : Addr) (cl : List (Str × Addr)) (fp : List Addr), DTs K (X.blk s H scope (compEnvC scope cl C X.env) fp) (fun _ => E0) ifs tt t)
    (he : ∀ (s' : Shared) (H : Hp) (C : Addr) (cl : List (Str × Addr)) (fp : List Addr), DE K (X.blk s' H scope (compEnvC scope cl C X.env) fp) (fun _ => E0) elt te s)
    (hv : own.map (·.2) = vs := by rfl) (hs : ∀ x, foldedSetIterable iter X.env x = pure x := by intro _; rfl) : DE K X E (.ListComp elt [⟨tg, iter, ifs, 0⟩] scope pos) (tLc wi g tt te vs) (dLc it gd t s vs) := by
  cases hi.hK
  subst hv
  exact ⟨rfl, pe_lc hc hN hi.pi ok (fun s H C cl fp => (hg s H C cl fp []).pg) (fun s H C cl fp => (ht s H C cl fp).pt) (fun s H C cl fp => (he s H C cl fp).pe) hs,
    le_lc hi.li (fun σ0 => (hg X.s_0 X.H_0 0 [] [] σ0).lg) (ht X.s_0 X.H_0 0 [] []).lt (he X.s_0 X.H_0 0 [] []).le⟩
/-- name = [..] -/
theorem s_setLc {vs : List Nat} {Pn : St → Prop} {j : Nat} {y : Str} {py spos : Pos} (hp : Keeps Pn j) (hc : X.calm = true) (hN : X.N.Nodup) (hy : X.N[j]? = some y) (hyl : X.env.scope.names.lookup y = some .local)
    (hsw : swapsWith (.ListComp elt [⟨tg, iter, ifs, 0⟩] scope pos) (some (.Name y py)) spos.line X.env = pure true) (hi : DI K X E tg iter wi it) (ok : BlkOk X.N X.env.scope scope own)
    (hg : ∀ (s : Shared) (H : Hp) (C : Addr) (cl : List (Str × Addr)) (fp : List Addr) (σ0 : St), DG K (X.blk s H scope (compEnvC scope cl C X.env) fp) (fun _ => E0) (fun σ => wipe σ vs = wipe σ0 vs) tg g gd)
    (ht : ∀ (s : Shared) (H : Hp) (C : Addr) (cl : List (Str × Addr)) (fp : List Addr), DTs K (X.blk s H scope (compEnvC scope cl C X.env) fp) (fun _ => E0) ifs tt t)
    (he : ∀ (s' : Shared) (H : Hp) (C : Addr) (cl : List (Str × Addr)) (fp : List Addr), DE K (X.blk s' H scope (compEnvC scope cl C X.env) fp) (fun _ => E0) elt te s)
    (hv : own.map (·.2) = vs := by rfl) (hs : ∀ x, foldedSetIterable iter X.env x = pure x := by intro _; rfl) : DS K X E Pn (.Assign [.Name y py] (.ListComp elt [⟨tg, iter, ifs, 0⟩] scope pos) spos) (tAsg (tLc wi g tt te vs) (gName j)) (sAsg (dLc it gd t s vs) (gN j)) := by
  cases hi.hK
  subst hv
  exact ⟨rfl, ps_setLc hc hN hy hyl hsw hi.pi ok (fun s H C cl fp => (hg s H C cl fp []).pg) (fun s H C cl fp => (ht s H C cl fp).pt) (fun s H C cl fp => (he s H C cl fp).pe) hs,
    ls_asg (le_lc hi.li (fun σ0 => (hg X.s_0 X.H_0 0 [] [] σ0).lg) (ht X.s_0 X.H_0 0 [] []).lt (he X.s_0 X.H_0 0 [] []).le) (lg_name hp)⟩
/-! what is walked -/
theorem i_list {s : TDD} (h : DD K X E a ta s) : DI K X E tg a (iList K ta) (iL s) := by
  cases h.hK
  exact ⟨rfl, pi_list h.pe, li_list h.ld⟩
theorem i_tup {s : TDD} (h : DD K X E a ta s) : DI K X E tg a (iTup K ta) (iT s) := by
  cases h.hK
  exact ⟨rfl, pi_tup h.pe, li_tup h.ld⟩
theorem i_r1 {r : TDA} (hm : X.mg "range" = none) (ha : DA K X E [a] tl r) (hg : Gl X "range" := by rfl) (hs : starEach [a] X.env = [(false, eval a X.env)] := by rfl) : DI K X E tg (.Call (.Name "range" p) [a] [] pos) (iRng1 tl) (iR1 r) := by
  cases ha.hK
  exact ⟨rfl, pi_range1 hg hm ha.pa hs, li_r1 ha.la⟩
theorem i_r2 {r : TDA} (hm : X.mg "range" = none) (ha : DA K X E [a, b] tl r) (hg : Gl X "range" := by rfl) (hs : starEach [a, b] X.env = [(false, eval a X.env), (false, eval b X.env)] := by rfl) (hs2 : starEach [b] X.env = [(false, eval b X.env)] := by rfl) : DI K X E tg (.Call (.Name "range" p) [a, b] [] pos) (iRng2 tl) (iR2 r) := by
  cases ha.hK
  exact ⟨rfl, pi_range2 hg hm ha.pa hs hs2, li_r2 ha.la⟩
/-! targets -/
variable {Pn : St → Prop}
theorem g_name {x : Str} (hp : Keeps Pn i) (hN : X.N.Nodup) (hi : X.N[i]? = some x) (hx : Loc X.env.scope x) (hf : X.fn x = true ∨ X.env.scope.names.lookup x = some .local := by first | exact .inl rfl | exact .inr rfl | assumption) (hK : X.K = K := by rfl) : DG K X E Pn (.Name x pos) (gName i) (gN i) := by
  cases hK
  exact ⟨rfl, pg_name hN hi hx hf, lg_name hp⟩
structure DGs (K : PySem.W.Frag) (X : Cx) (E : EK) (Pn : St → Prop) (es : List Expr) (tg : TGs) (g : List D → Env → (Env → Prop) → XQ → Prop) : Prop where
  hK : X.K = K
  pg : PGs X es tg
  lg : LGs K E Pn tg g
theorem g_nil (hK : X.K = K := by rfl) : DGs K X E Pn [] gNil gsNil := by
  cases hK
  exact ⟨rfl, pgs_nil, lgs_nil⟩
theorem g_cons {gs : TGs} {gds : List D → Env → (Env → Prop) → XQ → Prop} (h1 : DG K X E Pn e g gd) (h2 : DGs K X E Pn es gs gds) (hs : (assignEach (e :: es) X.env).map (·.2) = assign e X.env :: (assignEach es X.env).map (·.2) := by rfl) : DGs K X E Pn (e :: es) (gCons g gs) (gsCons gd gds) := by
  cases h1.hK
  exact ⟨rfl, pgs_cons h1.pg h2.pg hs, lgs_cons h1.lg h2.lg⟩
theorem g_tup {n kk : Nat} {gs : TGs} {gds : List D → Env → (Env → Prop) → XQ → Prop} (hc : X.calm = true) (h : DGs K X E Pn es gs gds) (hn : (assignEach es X.env).length = n := by rfl) (hst : (assignEach es X.env).findIdx? (·.1) = none := by rfl) : DG K X E Pn (.Tuple es kk pos) (gTup K n gs) (fun τ ρ Q _ => gT n gds τ ρ Q fun _ _ => False) := by
  cases h.hK
  exact ⟨rfl, pg_tup hc h.pg hn hst, lg_tup h.lg⟩
theorem g_sub {x : Str} {s : TDD} (hv : PE X (.Name x p2) (tVar i)) (hb : DD K X E b tb s) (ha : ∀ v, assign (.Subscript (.Name x p2) b pos) X.env v = (do
      let ov ← holding [v] (eval (.Name x p2) X.env)
      let iv ← holding [v, ov] (eval b X.env)
      standAt pos
      holding [v, ov, iv] (setItem ov iv v)
      release [v, ov, iv] []) := by intro _; rfl) : DG K X E Pn (.Subscript (.Name x p2) b pos) (gSub (tVar i) tb rSetL) (gSubL i s) := by
  cases hb.hK
  exact ⟨rfl, pg_sub hv hb.pe set_list ha, lg_subL hb.ld⟩
/-! statements -/
variable {st : Stmt} {rest : List Stmt} {ts us : TS} {u v : TSD}
theorem b_nil (hK : X.K = K := by rfl) : DSs K X E Pn [] tNext sNext := by
  cases hK
  exact ⟨rfl, pss_nil, ls_next⟩
theorem b_cons (h1 : DS K X E Pn st ts u) (h2 : DSs K X E Pn rest us v) : DSs K X E Pn (st :: rest) (tSeq ts us) (sSeq u v) := by
  cases h1.hK
  exact ⟨rfl, pss_cons h1.ps h2.ps, ls_seq h1.ls h2.ls⟩
theorem b_one (h1 : DS K X E Pn st ts u) : DSs K X E Pn [st] ts u := by
  cases h1.hK
  exact ⟨rfl, pss_one h1.ps, h1.ls⟩
theorem b_never {sts : List Stmt} (hK : X.K = K := by rfl) : DSs K X E Pn sts tNever sNever := by
  cases hK
  exact ⟨rfl, pss_never, ls_never⟩
theorem s_never (hK : X.K = K := by rfl) : DS K X E Pn st tNever sNever := by
  cases hK
  exact ⟨rfl, ps_never, ls_never⟩
theorem s_pass (hK : X.K = K := by rfl) : DS K X E Pn (.Pass pos) tNext sNext := by
  cases hK
  exact ⟨rfl, ps_pass, ls_next⟩
theorem s_break (hK : X.K = K := by rfl) : DS K X E Pn (.Break pos) tBreak sBreak := by
  cases hK
  exact ⟨rfl, ps_break, ls_break⟩
theorem s_cont (hK : X.K = K := by rfl) : DS K X E Pn (.Continue pos) tCont sCont := by
  cases hK
  exact ⟨rfl, ps_continue, ls_cont⟩
theorem s_expr (h : DE K X E e te s) (hs : swapsWith e none pos.line X.env = pure false := by rfl) : DS K X E Pn (.Expr e pos) (tDrop te) (sDrop s) := by
  cases h.hK
  exact ⟨rfl, ps_expr h.pe hs, ls_drop h.le⟩
theorem s_ret (h : DE K X E e te s) : DS K X E Pn (.Return (some e) pos) (tRet te) (sRet s) := by
  cases h.hK
  exact ⟨rfl, ps_ret h.pe, ls_ret h.le⟩
theorem s_retN (hK : X.K = K := by rfl) : DS K X E Pn (.Return none pos) tRetN sRetN := by
  cases hK
  exact ⟨rfl, ps_retN, ls_retN⟩
theorem s_if {a b : List Stmt} (hc : DT K X E c tt t) (ha : DSs K X E Pn a ts u) (hb : DSs K X E Pn b us v) : DS K X E Pn (.If c a b pos) (tIfS tt ts us) (sIf t u v) := by
  cases hc.hK
  exact ⟨rfl, ps_if hc.pt ha.ps hb.ps, ls_if hc.lt ha.ls hb.ls⟩
theorem s_set {x : Str} {pos' : Pos} (hp : Keeps Pn i) (hN : X.N.Nodup) (hi : X.N[i]? = some x) (hx : Loc X.env.scope x) (h : DE K X E e te s) (hs : swapsWith e (some (.Name x pos')) pos.line X.env = pure false := by rfl) (hf : X.fn x = true ∨ X.env.scope.names.lookup x = some .local := by first | exact .inl rfl | exact .inr rfl | assumption) :
    DS K X E Pn (.Assign [.Name x pos'] e pos) (tAsg te (gName i)) (sAsg s (gN i)) := by
  cases h.hK
  exact ⟨rfl, ps_set hN hi hx h.pe hs hf, ls_asg h.le (lg_name hp)⟩
theorem s_asg (h : DE K X E e te s) (hg : DG K X E Pn tg g gd) (hs : swapsWithSole [tg] e pos.line X.env = pure false := by rfl) (hw : swappedStores [tg] e X.env = pure none := by rfl)
    (h1 : (assignEach [tg] X.env).map (·.2) = [assign tg X.env] := by rfl) : DS K X E Pn (.Assign [tg] e pos) (tAsg te g) (sAsg s gd) := by
  cases h.hK
  exact ⟨rfl, ps_asg h.pe hg.pg hs hw h1, ls_asg h.le hg.lg⟩
theorem s_for {body : List Stmt} (hp : PassesOwn (model X.prog X.w) X.A X.env X.xe) (hc : X.calm = true) (hi : DI K X E tg iter wi it) (hg : DG K X E Pn tg g gd) (hb : DSs K X E Pn body ts u) (hs : ∀ x, foldedSetIterable iter X.env x = pure x := by intro _; rfl) :
    DS K X E Pn (.For tg iter body [] pos) (tFor wi g ts) (sFor it gd u) := by
  cases hi.hK
  exact ⟨rfl, ps_for hp hc hi.pi hg.pg hb.ps hs, ls_for hi.li hg.lg hb.ls⟩
theorem s_while {body : List Stmt} (hp : PassesOwn (model X.prog X.w) X.A X.env X.xe) (hc : DT K X E c tt t) (hb : DSs K X E Pn body ts u) : DS K X E Pn (.While c body [] pos) (tWhile tt ts) (sWhile t u) := by
  cases hc.hK
  exact ⟨rfl, ps_while hp hc.pt hb.ps, ls_while hc.lt hb.ls⟩
/-- name += e (ints) -/
def sAug (i : Nat) (op : Int → Int → Int) (s : TDD) (D : EndsD) (ρ : Dl.Env) : Prop := match slot ρ i with
  | some (.fz (.int m)) => s ρ (fun d ρ1 => match d with
    | .int n => D.nx (ρ1.set i (some (.fz (.int (op m n)))))
    | _ => False) D.ex
  | _ => False
theorem s_augG {x : Str} {pos' : Pos} {op : Operator} {fo : Int → Int → Int} {s : TDD} (ho : PIp X op (ipI fo)) (hp : Keeps Pn i) (hN : X.N.Nodup) (hi : X.N[i]? = some x) (hx : Loc X.env.scope x) (h : DD K X E e te s) (hf : X.fn x = true ∨ X.env.scope.names.lookup x = some .local := by first | exact .inl rfl | exact .inr rfl | assumption) :
    DS K X E Pn (.AugAssign (.Name x pos') op e pos) (tAug i te (ipI fo)) (sAug i fo s) := by
  cases h.hK
  exact ⟨rfl, ps_aug hN hi hx h.pe ho hf, ⟨fun ρ D hh G F σ H En hd p k => by
  unfold sAug at hh
  split at hh
  · rename_i m e0
    obtain ⟨v, Ov, q, r, _⟩ := hd.lend e0
    cases (show v = V.int m from r)
    refine ⟨_, q, h.ld.run ρ _ _ hh G F σ H _ hd (fun G1 H1 d ρ1 vd s1 hd1 r1 q1 => ?_) (k.ex G σ Sub.refl p)⟩
    split at q1
    · rename_i n
      refine ⟨m, n, rfl, r1, k.nx G1 H1 _ _ s1 ?_ (hp σ _ p) q1⟩
      have hi1 : i < ρ1.length := by
        rw [hd1.length]
        exact (List.getElem?_eq_some_iff.mp q).1
      obtain ⟨O, pp, rr⟩ := hd1
      exact HdT.put (τ := .fz (.int (fo m n))) hi1 ⟨emp, O, pp, emp_dj, rfl, rr.drop i⟩
    · exact q1.elim
  · exact hh.elim⟩⟩
end

/-! ### a def -/
section
variable {P : Program} {w : World} {K : PySem.W.Frag} {mg : Str → Option Value} {base : Heap}
theorem spOf_len {c : Ct} {n : Nat} (hlen : ∀ ts QD QX, c ts QD QX → ts.length = n) : ∀ vs H Q E, spOf K c vs H Q E → vs.length = n := fun vs H Q E ⟨ts, QD, QX, hc, G, O, F, p, rt, _⟩ => by rw [← rt.length]; exact hlen ts QD QX hc
/-- a contract of a def that raises nothing -/
abbrev Ct0 := List T → (T → List (Option T) → Prop) → Prop
def ct0 (c : Ct0) : Ct := fun ts QD _ => c ts QD
/-- a def that raises nothing: io tells which parameters are lent; c its contract -/
theorem fn_ok {x qual : Str} {st : Stmt} {f : Addr} {fd : FuncData} {N ps : List Str} {k : Nat} {c : Ct0} (io : List Bool) (F : Fun K x qual st f fd) (S : FnScope N ps (defScope st)) (hio : io.length = ps.length) (hN : ps.length ≤ N.length)
    (hlen : ∀ ts QD, c ts QD → ts.length = ps.length) {t : TSD}
    (hbody : ∀ (cdv : Value) (A : Around) (outer : List PySem.Env) (s : Shared) (H : Hp) (E : XK) (Pn : St → Prop), (∀ i, io[i]? ≠ some true → Keeps Pn i) → Room k (A.deeper (PyProof.Rows.envOfC qual (defScope st) s.heap.objs.size f cdv)) →
      ∃ te, DSs K (cxOf CX0 P w K mg base N qual (defScope st) f cdv A outer s H E).nox (fun _ => E0) Pn (defBody st) te t)
    (hb : ∀ ts QD, c ts QD → t (endsOf io QD fun _ _ => False) (startE N.length ts)) : FnOk P w K mg base CX0 (k + 1) f fd ps (spOf K (ct0 c)) := by
  have hlen' : ∀ ts QD QX, ct0 c ts QD QX → ts.length = ps.length := fun ts QD _ h => hlen ts QD h
  refine F.ok S (spOf_len hlen') fun cdv A outer s H vs Q E hr hs => ?_
  have hv := spOf_len hlen' vs H Q E hs
  obtain ⟨te, D⟩ := hbody cdv A outer s H E (PinOk io vs) (fun i h => pin_keeps h) hr
  refine ⟨te, D.ps, ?_⟩
  obtain ⟨ts, QD, QX, hc, G, O, F, p, rt, kq, kx⟩ := hs
  have hs' : spOf K (fun ts QD QX => (QX = fun _ _ => False) ∧ c ts QD) vs H Q E0 := ⟨ts, QD, fun _ _ => False, ⟨rfl, hc⟩, G, O, F, p, rt, kq, fun _ _ _ _ _ _ _ _ _ z => z.elim⟩
  exact body_sound (io := io) (hv.trans hio.symm) (by rw [hio]; exact hN) hs' D.ls fun ts QD QX _ hc => by
    obtain ⟨e, hc⟩ := hc
    subst e
    exact hb ts QD hc
end
end Dl

namespace Dl
open PySem L2 PySem.Spec PyProof.Rows
/-- a list or a tuple, walked -/
def iSeqV (K : PySem.W.Frag) (tl : TE) : TI := fun σ H R => tl σ H fun x H1 => ∃ a, x = .ref a ∧ (((∃ xs, SqL K H1 a xs) ∧ R (Itl K a) H1) ∨ ((∃ xs, SqT K H1 a xs) ∧ R (Itt K a) H1))
theorem pi_seq {X : Cx} {tg l : Expr} {tl : TE} (hl : PE X l tl) : PI X tg l (iSeqV X.K tl) := by
  refine ⟨fun pins s σ H R I h => ?_⟩
  refine thn (hl.run pins s σ H _ I h) fun v s1 ⟨x, H1, I1, r1, q1⟩ => ?_
  obtain ⟨a, e, ⟨⟨xs, hq⟩, q⟩ | ⟨⟨xs, hq⟩, q⟩⟩ := q1
  · subst e
    cases r1
    obtain ⟨its, rv, p, hz⟩ := I1.list hq
    refine wpAny_pyIter_list p.isList ?_
    refine ⟨s1.heap.objs.size, [s1.heap.objs.size], _, _, H1, rfl, I1.kept (t' := s1.toks) fun b o e => Heap.get?_push_of_some _ e, turn_list a _, ⟨_, Heap.get?_push_size _ rfl, rfl, rfl⟩, fun b hb => ?_, q⟩
    have e : b = s1.heap.objs.size := by simpa using hb
    subst e
    exact I1.fpOk (Nat.le_refl _) (I1.hok.fresh (Nat.le_refl _))
  · subst e
    cases r1
    obtain ⟨its, rv, p, hz⟩ := I1.tuple hq
    refine wpAny_pyIter_tuple (show s1.heap.IsTuple a its.toArray from p) ?_
    refine ⟨s1.heap.objs.size, [s1.heap.objs.size], _, _, H1, rfl, I1.kept (t' := s1.toks) fun b o e => Heap.get?_push_of_some _ e, turn_tuple a _, ⟨_, Heap.get?_push_size _ rfl, rfl, rfl⟩, fun b hb => ?_, q⟩
    have e : b = s1.heap.objs.size := by simpa using hb
    subst e
    exact I1.fpOk (Nat.le_refl _) (I1.hok.fresh (Nat.le_refl _))
theorem li_seq {K : PySem.W.Frag} {E : EK} {ta : TE} {a : TDD} (ha : LD K E ta a) : LI K E (iSeqV K ta) (iSeq a) := ⟨fun ρ Q QX ht G F σ H R hd k kx =>
  ha.run ρ _ QX ht G F σ H _ hd (fun G1 H1 d ρ1 v s1 hd1 r1 q1 => by
    split at q1
    · obtain ⟨b, xs, e, g, r⟩ := r1
      exact ⟨b, e, .inl ⟨⟨xs, SqL.of (hd1.sl _ _ g)⟩, k G1 H1 _ ρ1 _ s1 hd1 (fun F' _ => itd_list g r) q1⟩⟩
    · obtain ⟨b, xs, e, g, r⟩ := r1
      exact ⟨b, e, .inr ⟨⟨xs, SqT.sub hd1.sl g⟩, k G1 H1 _ ρ1 _ s1 hd1 (fun F' _ => itd_tup g r) q1⟩⟩
    · exact q1.elim) kx⟩
theorem i_seq {K : PySem.W.Frag} {X : Cx} {E : EK} {tg a : Expr} {ta : TE} {s : TDD} (h : DD K X E a ta s) : DI K X E tg a (iSeqV K ta) (iSeq s) := by
  cases h.hK
  exact ⟨rfl, pi_seq h.pe, li_seq h.ld⟩
/-- a name whose value moves out of its slot -/
def dMv (i : Nat) (ρ : Dl.Env) (Q : T → Dl.Env → Prop) (QX : XQ) : Prop := match slot ρ i with
  | some τ => Q τ (ρ.set i none)
  | none => False
theorem le_mv {K : PySem.W.Frag} {E : EK} {i : Nat} : LE K E (tVar i) (dMv i) := ⟨fun ρ Q QX ht G F σ H R hd k kx => by
  unfold dMv at ht
  cases e : slot ρ i with
  | none => rw [e] at ht; exact ht.elim
  | some τ =>
    rw [e] at ht
    obtain ⟨v, q1, h1⟩ := hd.focus e
    exact ⟨v, q1, k G H τ _ v Sub.refl h1 ht⟩⟩
theorem x_mv {K : PySem.W.Frag} {X : Cx} {E : EK} {i : Nat} {x : Str} {pos : Pos} (h : PE X (.Name x pos) (tVar i)) (hK : X.K = K := by rfl) : DE K X E (.Name x pos) (tVar i) (dMv i) := by
  cases hK
  exact ⟨rfl, h, le_mv⟩
/-- a, b, .. = a tuple, as a target -/
def gTp (n : Nat) (r : List D → Dl.Env → (Dl.Env → Prop) → XQ → Prop) (τ : T) (ρ : Dl.Env) (Q : Dl.Env → Prop) (QX : XQ) : Prop := gT n r τ ρ Q fun _ _ => False
/-- a def of the module as callers see it -/
structure Df (P : Program) (w : World) (K : PySem.W.Frag) (mg : Str → Option Value) (base : Heap) (k : Nat) (x : Str) (ps : List Str) (c : Ct) (f : Addr) (fd : FuncData) : Prop where
  ok : FnOk P w K mg base CX0 k f fd ps (spOf K c)
  bi : Binds K fd ps []
  mg : mg x = some (.ref f)
  kp : PySem.W.keepIn K (.ref f) = true
abbrev DfX (P : Program) (w : World) (K : PySem.W.Frag) (mg : Str → Option Value) (base : Heap) (k : Nat) (x : Str) (ps : List Str) (c : Ct0) : Prop := ∃ f fd, Df P w K mg base k x ps (ct0 c) f fd
end Dl

namespace Dl
open PySem L2

theorem erase_map {α β : Type} (f : α → β) : ∀ (l : List α) (i : Nat), (l.map f).eraseIdx i = (l.eraseIdx i).map f
  | [], _ => rfl
  | _ :: _, 0 => rfl
  | a :: l, i + 1 => by show f a :: (l.map f).eraseIdx i = f a :: (l.eraseIdx i).map f; rw [erase_map f l i]
/-! ### lists of frozen items, of intL: what is known of them -/
theorem fzs_len (ds : List D) : (fzs ds).length = ds.length := by simp [fzs]
theorem fzs_app (a b : List D) : fzs a ++ fzs b = fzs (a ++ b) := by simp [fzs]
theorem fzs_at (ds : List D) (i : Nat) : (fzs ds)[i]? = (ds[i]?).map T.fz := by simp [fzs]
theorem fzs_inj (a b : List D) : (fzs a = fzs b) = (a = b) := by
  apply propext
  constructor
  · intro h
    have := congrArg Ts.d h
    rwa [fzs_d, fzs_d] at this
  · intro h; rw [h]
theorem fzs_nil : fzs [] = [] := rfl
theorem nil_fzs (ds : List D) : (([] : List T) = fzs ds) = (ds = []) := by
  cases ds with
  | nil => simp [fzs]
  | cons d ds => simp [fzs]
theorem atI_fzs (ds : List D) (i : Int) (d : D) : (atI (fzs ds) i = some (.fz d)) = (atI ds i = some d) := by
  unfold atI
  rw [fzs_len]
  cases ixN ds.length i with
  | none => simp
  | some j => simp [fzs_at]
theorem fzs_atE (ds : List D) (i : Nat) (d : D) : ((fzs ds)[i]? = some (.fz d)) = (ds[i]? = some d) := by
  rw [fzs_at]
  cases ds[i]? <;> simp
theorem fzs_drop (ds : List D) : (fzs ds).dropLast = fzs ds.dropLast := by simp [fzs]
theorem fzs_erase (ds : List D) (i : Nat) : (fzs ds).eraseIdx i = fzs (ds.eraseIdx i) := erase_map _ _ _
theorem fzs_set (ds : List D) (i : Nat) (d : D) : (fzs ds).set i (.fz d) = fzs (ds.set i d) := by simp [fzs]
theorem fzs_take (ds : List D) (i : Nat) : (fzs ds).take i = fzs (ds.take i) := by simp [fzs]
theorem fzs_dropN (ds : List D) (i : Nat) : (fzs ds).drop i = fzs (ds.drop i) := by simp [fzs]
theorem fzs_isEmpty (ds : List D) : (fzs ds).isEmpty = ds.isEmpty := by cases ds <;> rfl
theorem fzs_one (d : D) : [T.fz d] = fzs [d] := rfl
theorem atI_ofNat {α : Type} (xs : List α) (n : Nat) : atI xs (@OfNat.ofNat Int n (@instOfNat n)) = xs[n]? := by
  have : (@OfNat.ofNat Int n (@instOfNat n)) = (n : Int) := rfl
  rw [this]
  unfold atI ixN
  rw [if_pos (Int.natCast_nonneg n)]
  by_cases h : n < xs.length
  · rw [if_pos (by omega)]; simp
  · rw [if_neg (by omega), List.getElem?_eq_none (by omega)]; rfl
theorem atI_cast {α : Type} (xs : List α) (n : Nat) : atI xs ((n : Nat) : Int) = xs[n]? := by
  have := atI_ofNat xs n
  exact this
theorem ixN_ofNat (m n : Nat) : ixN m (@OfNat.ofNat Int n (@instOfNat n)) = if n < m then some n else none := by
  have : (@OfNat.ofNat Int n (@instOfNat n)) = (n : Int) := rfl
  rw [this]
  unfold ixN
  rw [if_pos (Int.natCast_nonneg n)]
  by_cases h : n < m
  · rw [if_pos (by omega), if_pos h]; simp
  · rw [if_neg (by omega), if_neg h]
theorem atI_nn {α : Type} (xs : List α) {i : Int} (h : 0 ≤ i) : atI xs i = xs[i.toNat]? := by
  have e : i = ((i.toNat : Nat) : Int) := by omega
  have := atI_ofNat xs i.toNat
  have e2 : (@OfNat.ofNat Int i.toNat (@instOfNat i.toNat)) = i := e.symm
  rw [e2] at this
  exact this
theorem ixN_nn (m : Nat) {i : Int} (h : 0 ≤ i) : ixN m i = if i.toNat < m then some i.toNat else none := by
  have := ixN_ofNat m i.toNat
  have e2 : (@OfNat.ofNat Int i.toNat (@instOfNat i.toNat)) = i := by show ((i.toNat : Nat) : Int) = i; omega
  rw [e2] at this
  exact this
/-- xs[-1] -/
theorem atI_last {α : Type} (xs : List α) : atI xs (-1) = xs[xs.length - 1]? := by
  unfold atI ixN
  rw [if_neg (by omega)]
  by_cases h : 0 < xs.length
  · rw [if_pos (by omega)]
    show xs[((-1 : Int) + xs.length).toNat]? = _
    congr 1; omega
  · rw [if_neg (by omega), List.getElem?_eq_none (by omega)]; rfl
theorem atI_of {α : Type} {xs : List α} {i : Int} {x : α} (h0 : 0 ≤ i) (h : xs[i.toNat]? = some x) : atI xs i = some x := by
  have e : i = ((i.toNat : Nat) : Int) := by omega
  rw [e, atI_cast]; simpa using h

/-- a list of intL -/
def intL (ns : List Int) : List D := ns.map D.int
theorem ints_len (ns : List Int) : (intL ns).length = ns.length := by simp [intL]
theorem ints_app (a b : List Int) : intL a ++ intL b = intL (a ++ b) := by simp [intL]
theorem ints_at (ns : List Int) (i : Nat) : (intL ns)[i]? = (ns[i]?).map D.int := by simp [intL]
theorem ints_inj (a b : List Int) : (intL a = intL b) = (a = b) := by
  apply propext
  constructor
  · intro h
    induction a generalizing b with
    | nil => cases b with
      | nil => rfl
      | cons y b => simp [intL] at h
    | cons x a ih => cases b with
      | nil => simp [intL] at h
      | cons y b =>
        simp only [intL, List.map_cons, List.cons.injEq, D.int.injEq] at h
        rw [h.1, ih b h.2]
  · intro h; rw [h]
theorem atI_ints (ns : List Int) (i : Int) : atI (intL ns) i = (atI ns i).map D.int := by
  unfold atI
  rw [ints_len]
  cases ixN ns.length i with
  | none => rfl
  | some j => simp [ints_at]
theorem ints_drop (ns : List Int) : (intL ns).dropLast = intL ns.dropLast := by simp [intL]
theorem ints_erase (ns : List Int) (i : Nat) : (intL ns).eraseIdx i = intL (ns.eraseIdx i) := erase_map _ _ _
theorem ints_set (ns : List Int) (i : Nat) (n : Int) : (intL ns).set i (.int n) = intL (ns.set i n) := by simp [intL]
theorem ints_take (ns : List Int) (i : Nat) : (intL ns).take i = intL (ns.take i) := by simp [intL]
theorem ints_dropN (ns : List Int) (i : Nat) : (intL ns).drop i = intL (ns.drop i) := by simp [intL]
theorem ints_rev (ns : List Int) : (intL ns).reverse = intL ns.reverse := by simp [intL]
theorem ints_cut (ns : List Int) (lo hi : Option Int) : cut (intL ns) lo hi = intL (cut ns lo hi) := by simp [cut, intL]
theorem ints_pick (ns : List Int) (i c : Nat) : pick (intL ns) i c = intL (pick ns i c) := by
  unfold pick
  rw [ints_len]
  generalize List.range ns.length = l
  induction l with
  | nil => rfl
  | cons m l ih =>
    rw [List.filterMap_cons, List.filterMap_cons, ints_at]
    cases ns[i + m * c]? with
    | none => exact ih
    | some x =>
      show D.int x :: _ = intL (x :: _)
      rw [ih]; rfl
theorem ints_rng (lo : Int) (n : Nat) : rngD lo n = intL ((List.range n).map fun i => lo + ((i : Nat) : Int)) := by simp [rngD, intL]
theorem ints_isEmpty (ns : List Int) : (intL ns).isEmpty = ns.isEmpty := by cases ns <;> rfl
theorem map_ints (ns : List Int) : ns.map D.int = intL ns := rfl
theorem Ds.py_ints : ∀ ns : List Int, Ds.py (intL ns) = ns.map PyData.int
  | [] => rfl
  | n :: ns => by show PyData.int n :: Ds.py (intL ns) = _; rw [Ds.py_ints ns]; rfl
theorem plain_ints : ∀ ns : List Int, Ds.plain (intL ns) = true
  | [] => rfl
  | n :: ns => by show (true && Ds.plain (intL ns)) = true; rw [plain_ints ns]; rfl
theorem canLay_ints : ∀ ns : List Int, PyData.canLayAll0 (ns.map PyData.int) = true
  | [] => by simp [PyData.canLayAll0]
  | n :: ns => by simp [PyData.canLayAll0, PyData.canLay0, canLay_ints ns]
theorem depth_ints : ∀ ns : List Int, PyData.depthAll (ns.map PyData.int) = 0
  | [] => by simp [PyData.depthAll]
  | n :: ns => by simp [PyData.depthAll, PyData.depth, depth_ints ns]
theorem eqv_ints : ∀ ns ms : List Int, PyData.eqvAll (ns.map PyData.int) (ms.map PyData.int) = decide (ns = ms)
  | [], [] => by simp [PyData.eqvAll]
  | [], m :: ms => by simp [PyData.eqvAll]
  | n :: ns, [] => by simp [PyData.eqvAll]
  | n :: ns, m :: ms => by simp only [List.map_cons, PyData.eqvAll, PyData.eqv, eqv_ints ns ms, List.cons.injEq, Bool.decide_and, Bool.beq_eq_decide_eq]
/-- == of two lists of intL -/
theorem eq_lints (n : Bool) (a b : List Int) (k : T → Prop) : fEq n (.lst (intL a)) (.lst (intL b)) k = k (.fz (.bl (n != decide (a = b)))) := by
  have s : ∀ a : List Int, SeqAt.shaped (PyData.list (a.map PyData.int)) = true := fun a => by
    simp [SeqAt.shaped, PyData.canLay0, PyData.depth, canLay_ints, depth_ints]
  have c : D.cmp (.lst (intL a)) (.lst (intL b)) := by
    refine ⟨plain_ints a, plain_ints b, ?_, ?_⟩
    · show SeqAt.shaped (.list (Ds.py (intL a))) = true
      rw [Ds.py_ints]; exact s a
    · show SeqAt.shaped (.list (Ds.py (intL b))) = true
      rw [Ds.py_ints]; exact s b
  have e : PyData.eqv (D.py (.lst (intL a))) (D.py (.lst (intL b))) = decide (a = b) := by
    show PyData.eqv (.list (Ds.py (intL a))) (.list (Ds.py (intL b))) = _
    rw [Ds.py_ints, Ds.py_ints]
    simp only [PyData.eqv]
    exact eqv_ints a b
  unfold fEq
  show (D.cmp _ _ ∧ k (.fz (.bl (n != PyData.eqv _ _)))) = _
  rw [e]
  exact propext ⟨fun h => h.2, fun h => ⟨c, h⟩⟩
theorem bne_false (b : Bool) : (false != b) = b := by cases b <;> rfl
theorem bne_true (b : Bool) : (true != b) = !b := by cases b <;> rfl

/-! ### side conditions -/
theorem mul_r {i j : Int} (h : j.natAbs < 2 ^ 64) : IntMulOk i j := .of_right (intBits_le_64 (by omega) (by omega))
theorem mul_l {i j : Int} (h : i.natAbs < 2 ^ 64) : IntMulOk i j := .of_left (intBits_le_64 (by omega) (by omega))
theorem mul_mod {i j : Int} {m : Int} (h0 : 0 < m) (h : m ≤ 2 ^ 64) : IntMulOk (i % m) j := by
  have a := Int.emod_nonneg i (show m ≠ 0 by omega)
  have b := Int.emod_lt_of_pos i h0
  exact mul_l (by omega)
theorem div_n {i j : Int} (h0 : 0 < j) (h : j < 2 ^ 64) : CDivW i j := by
  refine ⟨h0, ?_⟩
  have : j.natAbs < 2 ^ 64 := by omega
  have := (Nat.log2_lt (by omega)).mpr this
  omega
theorem pow_n {i j : Int} (h0 : 0 ≤ j) (h : (Builtin.Int.intBits i : Int) * j ≤ 2 ^ 27) : CPowW i j := ⟨h0, h⟩
theorem size_le {n m : Nat} (h : n ≤ m) (hm : m ≤ 16777216) : n ≤ sizeLine := by rw [sizeLine_eq]; omega
theorem size_lt {n m : Nat} (h : n ≤ m) (hm : m < 16777216) : n < sizeLine := by rw [sizeLine_eq]; omega
theorem exI {ns : List Int} {i : Int} {k : D → Prop} (h0 : 0 ≤ i) (h1 : i < (ns.length : Int)) (h : ∀ n, ns[i.toNat]? = some n → k (.int n)) : ExG (fun d => atI (intL ns) i = some d) k := by
  have hl : i.toNat < ns.length := by omega
  refine exG (.int ns[i.toNat]) ?_ (h _ (List.getElem?_eq_getElem hl))
  show atI (intL ns) i = _
  rw [atI_ints, atI_nn _ h0, List.getElem?_eq_getElem hl]
  rfl

/-! ### a place where ways meet -/
def JnG (a b : TSD) (D : EndsD) (ρ : Dl.Env) (_t : Tg D := .mk) : Prop := ∃ I : Env → Prop, a { D with nx := I } ρ ∧ ∀ ρ', I ρ' → b D ρ'
def sJn (a b : TSD) (D : EndsD) (ρ : Dl.Env) : Prop := JnG a b D ρ
theorem jnG {a b : TSD} {D : EndsD} {ρ : Dl.Env} (I : Env → Prop) (h1 : a { D with nx := I } ρ) (h2 : ∀ ρ', I ρ' → b D ρ') : JnG a b D ρ := ⟨I, h1, h2⟩
section
variable {K : PySem.W.Frag} {E : EK} {Pn : St → Prop} {ts us : TS} {X : Cx} {st : Stmt} {rest : List Stmt} {u v : TSD}
theorem ls_jn {a b : TSD} (ha : LS K E Pn ts a) (hb : LS K E Pn us b) : LS K E Pn (tSeq ts us) (sJn a b) := ⟨fun ρ D h G F σ H En hd p k => by
  obtain ⟨I, h1, h2⟩ := h
  exact ha.run ρ _ h1 G F σ H _ hd p ⟨fun G1 H1 σ1 ρ1 s1 hd1 p1 q1 => hb.run ρ1 D (h2 _ q1) G1 F σ1 H1 En hd1 p1 (k.mono s1), k.rt, k.bk, k.ct, k.ex⟩⟩
theorem b_join (h1 : DS K X E Pn st ts u) (h2 : DSs K X E Pn rest us v) : DSs K X E Pn (st :: rest) (tSeq ts us) (sJn u v) := by
  cases h1.hK
  exact ⟨rfl, pss_cons h1.ps h2.ps, ls_jn h1.ls h2.ls⟩
end

theorem fIsi_c {n : String} {τ : T} {k : T → Prop} {m : String} {b : Bool} (h : τ.d.tyn = some m) (h2 : kitB m n = some b) : fIsi n τ k = k (.fz (.bl b)) := by
  unfold fIsi ExG
  apply propext
  constructor
  · rintro ⟨m', e, b', e2, hk⟩
    rw [h] at e; cases e
    rw [h2] at e2; cases e2
    exact hk
  · exact fun hk => ⟨m, h, b, h2, hk⟩
theorem isi_bb (b : Bool) (k : T → Prop) : fIsi "bool" (.fz (.bl b)) k = k (.fz (.bl true)) := fIsi_c rfl (by decide +kernel)
theorem isi_bi (b : Bool) (k : T → Prop) : fIsi "int" (.fz (.bl b)) k = k (.fz (.bl true)) := fIsi_c rfl (by decide +kernel)
theorem isi_ib (b : Int) (k : T → Prop) : fIsi "bool" (.fz (.int b)) k = k (.fz (.bl false)) := fIsi_c rfl (by decide +kernel)
theorem isi_ii (b : Int) (k : T → Prop) : fIsi "int" (.fz (.int b)) k = k (.fz (.bl true)) := fIsi_c rfl (by decide +kernel)
theorem rngD_len (lo : Int) (n : Nat) : (rngD lo n).length = n := by simp [rngD]
theorem rngD_at {lo : Int} {n i : Nat} {d : D} (h : (rngD lo n)[i]? = some d) : i < n ∧ d = .int (lo + (i : Nat)) := by
  simp only [rngD, List.getElem?_map, Option.map_eq_some_iff] at h
  obtain ⟨a, h, e⟩ := h
  rw [List.getElem?_eq_some_iff] at h
  obtain ⟨h1, h2⟩ := h
  simp at h1 h2
  subst h2
  exact ⟨h1, e.symm⟩
theorem ints_some {ns : List Int} {i : Nat} {d : D} (h : (intL ns)[i]? = some d) : ∃ n, ns[i]? = some n ∧ d = .int n := by
  rw [ints_at] at h
  simp only [Option.map_eq_some_iff] at h
  obtain ⟨n, h1, h2⟩ := h
  exact ⟨n, h1, h2.symm⟩
theorem mem_ints {ns : List Int} {d : D} (h : d ∈ intL ns) : ∃ n, n ∈ ns ∧ d = .int n := by
  simp only [intL, List.mem_map] at h
  obtain ⟨n, h1, h2⟩ := h
  exact ⟨n, h1, h2.symm⟩
theorem exD {α : Type} {xs : List α} {i : Int} {k : α → Prop} (h0 : 0 ≤ i) (h1 : i < (xs.length : Int)) (h : ∀ x, xs[i.toNat]? = some x → x ∈ xs → k x) : ExG (fun d => atI xs i = some d) k := by
  have hl : i.toNat < xs.length := by omega
  exact exG xs[i.toNat] (by rw [atI_nn _ h0, List.getElem?_eq_getElem hl]) (h _ (List.getElem?_eq_getElem hl) (List.getElem_mem hl))

theorem exS {i : Int} {n : Nat} {k : Nat → Prop} (h0 : 0 ≤ i) (h1 : i < (n : Int)) (h : k i.toNat) : ExG (fun j => seqIndex? i n = some j) k := by
  refine exG i.toNat ?_ h
  have e : (if i < 0 then i + (n : Int) else i) = i := if_neg (by omega)
  unfold seqIndex?
  simp only [e]
  rw [if_pos]
  simp [h0, h1]
theorem exN {ds : List D} {j : Nat} {k : D → Prop} (h1 : j < ds.length) (h : ∀ d, ds[j]? = some d → d ∈ ds → k d) : ExG (fun d => ds[j]? = some d) k :=
  exG ds[j] (List.getElem?_eq_getElem h1) (h _ (List.getElem?_eq_getElem h1) (List.getElem_mem h1))
theorem perm_erase {α : Type} : ∀ {l : List α} {j : Nat} {d : α}, l[j]? = some d → (d :: l.eraseIdx j).Perm l
  | [], _, _, h => by simp at h
  | a :: l, 0, d, h => by simp at h; subst h; exact .refl _
  | a :: l, j + 1, d, h => by
    simp at h
    show (d :: a :: l.eraseIdx j).Perm (a :: l)
    exact (List.Perm.swap a d _).trans ((perm_erase h).cons a)
theorem perm_pop {α : Type} {es left ds : List α} {j : Nat} {d : α} (h : left[j]? = some d) (p : (es ++ left).Perm ds) : ((es ++ [d]) ++ left.eraseIdx j).Perm ds := by
  rw [List.append_assoc]
  exact (List.Perm.append_left es (perm_erase h)).trans p

/-! ### lists whose items are ints -/
def AllI (ds : List D) : Prop := ∀ d ∈ ds, ∃ n, d = D.int n
theorem AllI.ints : ∀ {ds : List D}, AllI ds → ∃ ns, ds = intL ns
  | [], _ => ⟨[], rfl⟩
  | d :: ds, h => by
    obtain ⟨n, rfl⟩ := h d List.mem_cons_self
    obtain ⟨ns, rfl⟩ := AllI.ints (ds := ds) fun x hx => h x (List.mem_cons_of_mem _ hx)
    exact ⟨n :: ns, rfl⟩
theorem allI_ints (ns : List Int) : AllI (intL ns) := fun d h => by
  obtain ⟨n, _, e⟩ := mem_ints h
  exact ⟨n, e⟩
theorem allI_nil : AllI [] := fun _ h => nomatch h
theorem AllI.cons {n : Int} {ds : List D} (h : AllI ds) : AllI (.int n :: ds) := fun d hd => by
  rcases List.mem_cons.mp hd with e | e
  · exact ⟨n, e⟩
  · exact h d e
theorem AllI.app {a b : List D} (h : AllI a) (k : AllI b) : AllI (a ++ b) := fun d hd => by
  rcases List.mem_append.mp hd with e | e
  · exact h d e
  · exact k d e
theorem AllI.sub {a b : List D} (h : AllI a) (k : ∀ d ∈ b, d ∈ a) : AllI b := fun d hd => h d (k d hd)
theorem AllI.take {a : List D} (h : AllI a) (n : Nat) : AllI (a.take n) := h.sub fun _ => List.mem_of_mem_take
theorem AllI.drop {a : List D} (h : AllI a) (n : Nat) : AllI (a.drop n) := h.sub fun _ => List.mem_of_mem_drop
theorem AllI.rev {a : List D} (h : AllI a) : AllI a.reverse := h.sub fun _ => List.mem_reverse.mp
theorem AllI.cut {a : List D} (h : AllI a) (lo hi : Option Int) : AllI (cut a lo hi) := (h.drop _).take _
theorem AllI.perm {a b : List D} (h : AllI a) (p : b.Perm a) : AllI b := h.sub fun _ hd => p.mem_iff.mp hd
theorem cut_len {α : Type} (a : List α) (lo hi : Option Int) : (cut a lo hi).length ≤ a.length := by
  unfold cut; simp; omega
theorem cut_some {α : Type} (a : List α) {hi : Int} (h : 0 ≤ hi) : cut a none (some hi) = a.take hi.toNat := by
  unfold cut
  have e1 : HT.sIx a.length 0 none = 0 := rfl
  have e2 : (a.take (HT.sIx a.length a.length (some hi))) = a.take hi.toNat := by
    have : HT.sIx a.length a.length (some hi) = min hi.toNat a.length := by
      simp [HT.sIx]; omega
    rw [this, List.take_eq_take_iff]; omega
  rw [e1]; simpa using e2
theorem cut_from {α : Type} (a : List α) {lo : Int} (h : 0 ≤ lo) : cut a (some lo) none = a.drop lo.toNat := by
  unfold cut
  have e1 : HT.sIx a.length a.length none = a.length := rfl
  have e2 : HT.sIx a.length 0 (some lo) = min lo.toNat a.length := by
    simp [HT.sIx]; omega
  rw [e1, e2]
  by_cases hl : lo.toNat ≤ a.length
  · rw [Nat.min_eq_left hl, List.take_of_length_le]; simp
  · rw [Nat.min_eq_right (by omega), List.drop_eq_nil_of_le (by omega : a.length ≤ lo.toNat)]; simp
theorem fzs_snoc (ds : List D) (d : D) : fzs ds ++ [T.fz d] = fzs (ds ++ [d]) := by simp [fzs]
theorem ifOr {p q : Prop} [Decidable p] [Decidable q] {A B : Prop} (h1 : p ∨ q → A) (h2 : ¬ p → ¬ q → B) : IfG (decide p) A (IfG (decide q) A B) :=
  ifD (fun h => h1 (.inl h)) fun h => ifD (fun h' => h1 (.inr h')) fun h' => h2 h h'
theorem AllI.snoc {n : Int} {ds : List D} (h : AllI ds) : AllI (ds ++ [.int n]) := h.app (allI_nil.cons)
theorem AllI.mem {ds : List D} {d : D} (h : AllI ds) (hd : d ∈ ds) : ∃ n, d = .int n := h d hd
/-- an item of a list of ints -/
theorem exA {ds : List D} {i : Int} {k : D → Prop} (ha : AllI ds) (h0 : 0 ≤ i) (h1 : i < (ds.length : Int)) (h : ∀ n, D.int n ∈ ds → ds[i.toNat]? = some (.int n) → k (.int n)) : ExG (fun d => atI ds i = some d) k :=
  exD h0 h1 fun x hx hm => by
    obtain ⟨n, rfl⟩ := ha x hm
    exact h n hm hx
theorem exA' {ds : List D} {j : Nat} {k : D → Prop} (ha : AllI ds) (h1 : j < ds.length) (h : ∀ n, D.int n ∈ ds → ds[j]? = some (.int n) → k (.int n)) : ExG (fun d => ds[j]? = some d) k :=
  exN h1 fun x hx hm => by
    obtain ⟨n, rfl⟩ := ha x hm
    exact h n hm hx
theorem cmp_lints (a b : List Int) : D.cmp (.lst (intL a)) (.lst (intL b)) = True := by
  have := eq_lints false a b (fun _ => True)
  unfold fEq at this
  have h : (D.cmp (.lst (intL a)) (.lst (intL b)) ∧ True) = True := this
  rwa [and_true] at h
theorem eqv_lints (a b : List Int) : PyData.eqv (D.py (.lst (intL a))) (D.py (.lst (intL b))) = decide (a = b) := by
  show PyData.eqv (.list (Ds.py (intL a))) (.list (Ds.py (intL b))) = _
  rw [Ds.py_ints, Ds.py_ints]
  simp only [PyData.eqv]
  exact eqv_ints a b
end Dl

namespace Dl
open PySem L2
def spLaw (K : PySem.W.Frag) (n : Nat) : Sp := fun vs H Q _ => ∃ (a : Addr) (ns : List Int), vs = [.ref a] ∧ SqL K H a (ns.map V.int) ∧ ns.length ≤ n ∧ ∀ H', Q (.bl true) H'
theorem reps_map {K : PySem.W.Frag} {G : Hp} : ∀ ns : List Int, Reps K G (intL ns) (ns.map V.int)
  | [] => rfl
  | n :: ns => ⟨_, _, rfl, rfl, reps_map ns⟩
/-- what a law's contract must say of the script -/
def LawC (n : Nat) (c : Ct0) : Prop := ∀ (ns : List Int) (QD : T → List (Option T) → Prop), ns.length ≤ n → (∀ ts', QD (.fz (.bl true)) ts') → c [.fz (.sq (intL ns))] QD
theorem law_sp {P : Program} {w : World} {K : PySem.W.Frag} {mg : Str → Option Value} {base : Heap} {k n : Nat} {f : Addr} {fd : FuncData} {x : Str} {c : Ct0} (h : LawC n c) (F : FnOk P w K mg base CX0 k f fd [x] (spOf K (ct0 c))) :
    FnOk P w K mg base CX0 k f fd [x] (spLaw K n) := F.imp fun vs H Q E q => by
  obtain ⟨a, ns, rfl, hS, hl, hk⟩ := q
  refine ⟨[.fz (.sq (intL ns))], fun r _ => r = .fz (.bl true), fun _ _ => False, h ns _ hl (fun _ => rfl), H, emp, emp, ⟨Sub.refl, emp_sub, emp_sub, dj_emp, dj_emp, dj_emp⟩, ?_, ?_, ?_⟩
  · exact ⟨_, [], emp, emp, rfl, emp_sub, emp_sub, emp_dj, ⟨a, _, rfl, hS, reps_map ns⟩, rfl⟩
  · rintro G' H' r v ts' _ hd rfl
    cases (show v = V.bl true from hd.fz)
    exact hk _
  · exact fun _ _ _ _ _ _ _ _ _ z => z.elim
theorem walk_law {l : PySem.W.OpenLaw} {n k : Nat} {q : Program} {loose : List Str} {XP : (Str → Option Value) → Heap → Prop} {YP : World → Heap → Prop} {d : DefRec} {K : Params → PySem.W.Frag} (hn : l.most = some n) (hn2 : n ≤ sizeLine) (hdf : d.params.defaults = []) (hr : Room k callerA)
    (hY : ∀ (w : World) (h : Heap), YP w h → (K w.params).In h)
    (F : ∀ (w : World) (mg : Str → Option Value) (fa : Addr) (h : Heap), (K w.params).In h → h.Ns mainGlobals mg → mg d.name = some (.ref fa) →
      ∃ fd : FuncData, (∀ (s : Shared) (u : Value), BindsTo s fd ⟨[u], []⟩ [("script", u)]) ∧ ∀ base : Heap, (K w.params).In base → base.Ns mainGlobals mg → FnOk l.prog w (K w.params) mg base CX0 k fa fd ["script"] (spLaw (K w.params) n)) :
    PySem.W.WalkO q loose XP YP l.row.toRowW d [] (fun f vs => PySem.call f vs) :=
  L2.walk_of (n := n) (k := k) (x := "script") (CX := fun _ => CX0) (sp := fun w => spLaw (K w.params) n) hn hn2 hdf hr hY F (fun _ _ a ns hl _ hS => ⟨a, ns, rfl, hS, hl, fun _ => rfl⟩) fun _ _ _ _ _ z => z
end Dl

namespace Law
open PySem L2 Dl
local macro_rules | `(tactic| walk_at "nrm") => `(tactic| simp -dsimp only [↓sNext, ↓sSeq, ↓sBreak, ↓sCont, ↓sDrop, ↓sRet, ↓sRetN, ↓sIf, ↓sAsg, ↓sAug, ↓sFor, ↓sWhile, ↓dOp, ↓dUn, ↓dFz, ↓dUp, ↓dVar, ↓dC, ↓dMv, ↓bC1, ↓bCN, ↓bUn, ↓bUnV, ↓bOp, ↓bOpV, ↓bMut, ↓daCons, ↓daNil, ↓daIo, ↓dLst, ↓dTup, ↓dSl, ↓dSlV, ↓dPart, ↓dNoPart, ↓dStep, ↓dLstRg, ↓dR1, ↓dCall, ↓ct0, ↓ext1, ↓back1, ↓ArgsD, ↓dTB, ↓dTru, ↓dTruV, ↓dAnd, ↓dOr, ↓dNot, ↓dAndV, ↓dOrV, ↓dNotV, ↓dIfE, ↓dYes, ↓dLc, ↓iSeq, ↓iL, ↓iT, ↓iR1, ↓iR2, slot, ↓gN, ↓gTp, ↓gT, ↓gsCons, ↓gsNil, ↓gSubL, ↓startE, ↓fLt, ↓fLe, ↓fGt, ↓fGe, ↓fSub, ↓fMod, ↓fDiv, ↓fPow, ↓fNeg, ↓fI, ↓fI0, ↓fAdd, ↓fMul, ↓fInt, ↓fLen, ↓fIx, ↓fList, ↓fTuple, cmp_lints, eqv_lints, ↓fEq, ↓fTru, ↓fSl, ↓fStep, ↓fIsN, ↓fAppend, ↓fPop, ↓fPopAt, ↓fInsert, ↓fExtend, ↓fMax2, ↓fMin2, ↓fSorted, ↓fRev, ↓isi_bb, ↓isi_bi, ↓isi_ib, ↓isi_ii, rngD_len, ints_pick, HT.sIx_none, ↓sJn, endsOf, ioOf, T.d, Ts.d, fzs_d, NX, wipeE, List.map_cons, List.map_nil, List.length_cons, List.length_nil, List.set_cons_zero, List.set_cons_succ, Nat.reduceAdd, Nat.reduceSub, Nat.reduceLT, Int.reduceLE, Int.reduceToNat, Int.reduceAdd, Int.reduceSub, Int.reduceNeg, if_true, if_false, Bool.false_eq_true, true_and, and_true, ite_true, ite_false, reduceIte,
  ints_len, ints_cut, fzs_len, fzs_atE, fzs_app, fzs_inj, nil_fzs, atI_fzs, fzs_drop, fzs_erase, fzs_set, fzs_take, fzs_dropN, fzs_isEmpty, atI_nn, ixN_nn, Dl.atI_last, List.getElem?_cons_succ, List.getElem?_cons_zero, exG_eq, ifG_true, ifG_false, fzs_nil,  Option.some.injEq, T.fz.injEq, D.int.injEq, bne_false, bne_true, decide_eq_true_eq, Bool.not_true, Bool.not_false, decide_true, eq_self, beq_self_eq_true, List.append_nil, List.nil_append])

/-! ### the store of draws -/
def sto (ns : List Int) (at' num left turn seed : Int) : T := .ls (fzs [.lst (intL ns), .int at', .int num, .int left, .int turn, .int seed])
structure Sto (τ : T) : Prop where
  ex : ∃ ns at' num left turn seed, τ = sto ns at' num left turn seed ∧ 0 ≤ at' ∧ at' ≤ (ns.length : Int)
def c__law_mix : Ct0 := fun ts Q => match ts with
  | [.fz (.int _), .fz (.int _)] => ∀ r, Q (.fz (.int r)) [none, none]
  | _ => False
/-- _law_mix: 0 number, 1 turn, 2 one, 3 two -/
def t__law_mix : TSD := (sSeq (sAsg (dOp fMod (dFz (bC1 fInt (daCons (dFz (dOp fAdd (dFz (dOp fAdd (dFz (dOp fMul (dVar 0) (dC (.int 48271)))) (dFz (dOp fMul (dVar 1) (dC (.int 69621)))))) (dC (.int 12345)))) daNil))) (dC (.int 2147483647))) (gN 2))
  (sSeq (sAsg (dOp fMod (dFz (bC1 fInt (daCons (dFz (dOp fAdd (dFz (dOp fAdd (dFz (dOp fMul (dVar 2) (dVar 2))) (dFz (dOp fMul (dVar 1) (dC (.int 40692)))))) (dC (.int 7919)))) daNil))) (dC (.int 2147483629))) (gN 3))
  (sRet (dOp fDiv (dFz (dOp fMod (dFz (bC1 fInt (daCons (dFz (dOp fAdd (dFz (dOp fMul (dVar 3) (dVar 3))) (dFz (dOp fMul (dVar 2) (dC (.int 16807)))))) daNil))) (dC (.int 2147483587)))) (dC (.int 7000))))))
theorem body__law_mix : ∀ ts QD, c__law_mix ts QD → t__law_mix (endsOf [false, false] QD fun _ _ => False) (startE 4 ts) := by
  intro ts QD h
  match ts, h with
  | [.fz (.int a), .fz (.int b)], h =>
    unfold t__law_mix
    walk_at "nrm"
    exact ⟨mul_r (by decide), mul_r (by decide), by decide, mul_mod (by decide) (by decide), mul_r (by decide), by decide, mul_mod (by decide) (by decide), mul_mod (by decide) (by decide), by decide, div_n (by decide) (by decide), h _⟩
theorem pw18 : CPowW 10 18 := pow_n (by decide) (by decide +kernel)
theorem mix_i {a b : Int} {k kx} (h : ∀ r, k (.fz (.int r)) [none, none]) : CallG (ct0 c__law_mix) [.fz (.int a), .fz (.int b)] k kx := h
def c__law_load : Ct0 := fun ts Q => match ts with
  | [st] => ∃ ns at' num left turn seed, st = sto ns at' num left turn seed ∧ 0 ≤ at' ∧ at' ≤ (ns.length : Int) ∧ ∀ at' num left r, 0 ≤ at' → at' ≤ (ns.length : Int) → Q r [some (sto ns at' num left turn seed)]
  | _ => False
/-- _law_load: 0 store, 1 numbers, 2 number -/
def t__law_load : TSD := (sSeq (sAsg (bOpV fIx 0 (dC (.int 0))) (gN 1))
  (sSeq (sAsg (bOpV fIx 0 (dC (.int 5))) (gN 2))
  (sSeq (sIf (dTB (dOp fLt (dFz (bOpV fIx 0 (dC (.int 1)))) (dFz (bC1 fLen (daIo 1 daNil))))) (sSeq (sAsg (bOpV fIx 1 (dFz (bOpV fIx 0 (dC (.int 1))))) (gN 2))
  (sAsg (dOp fAdd (dFz (bOpV fIx 0 (dC (.int 1)))) (dC (.int 1))) (gSubL 0 (dC (.int 1))))) sNext)
  (sSeq (sAsg (dUp (dVar 2)) (gSubL 0 (dC (.int 2))))
  (sSeq (sAsg (dUp (dC (.int 5))) (gSubL 0 (dC (.int 3))))
  (sIf (dTB (dOp fGe (dVar 2) (dFz (dOp fPow (dC (.int 10)) (dC (.int 18)))))) (sAsg (dOp fSub (dC (.int 0)) (dC (.int 1))) (gSubL 0 (dC (.int 3)))) sNext))))))
theorem body__law_load : ∀ ts QD, c__law_load ts QD → t__law_load (endsOf [true] QD fun _ _ => False) (startE 3 ts) := by
  intro ts QD h
  match ts, h with
  | [_], ⟨ns, at', num, left, turn, seed, rfl, h0, h1, k⟩ =>
    unfold t__law_load sto
    walk_at "nrm"
    refine ifD (fun h => ?_) (fun _ => ?_)
    · walk_at "nrm"
      refine exI h0 h fun n _ => ?_
      walk_at "nrm"
      refine ⟨pw18, ifD (fun _ => ?_) (fun _ => ?_)⟩
      · walk_at "nrm"
        exact k _ _ _ _ (by omega) (by omega)
      · exact k _ _ _ _ (by omega) (by omega)
    · walk_at "nrm"
      refine ⟨pw18, ifD (fun _ => ?_) (fun _ => ?_)⟩
      · walk_at "nrm"
        exact k _ _ _ _ (by omega) (by omega)
      · exact k _ _ _ _ (by omega) (by omega)
theorem load_i {ns : List Int} {at' num left turn seed : Int} {k kx} (h0 : 0 ≤ at') (h1 : at' ≤ (ns.length : Int)) (h : ∀ at' num left r, 0 ≤ at' → at' ≤ (ns.length : Int) → k r [some (sto ns at' num left turn seed)]) : CallG (ct0 c__law_load) [.ls (fzs [.lst (intL ns), .int at', .int num, .int left, .int turn, .int seed])] k kx := ⟨ns, at', num, left, turn, seed, rfl, h0, h1, h⟩
theorem mx (m : Int) : (if m > 1 then m else 1) = max 1 m := by omega
def c__law_take : Ct0 := fun ts Q => match ts with
  | [st, .fz (.int m)] => Sto st ∧ m < 2 ^ 62 ∧ ∀ st' d, Sto st' → 0 ≤ d → d < max 1 m → Q (.fz (.int d)) [some st', none]
  | _ => False
/-- _law_take: 0 store, 1 many, 2 digit -/
def t__law_take : TSD := (sSeq (sAsg (bCN fMax2 (daCons (dC (.int 1)) (daCons (dFz (bC1 fInt (daIo 1 daNil))) daNil))) (gN 1))
  (sSeq (sAsg (dOp fAdd (dFz (bOpV fIx 0 (dC (.int 4)))) (dC (.int 1))) (gSubL 0 (dC (.int 4))))
  (sJn (sIf (dTB (dOp (fEq false) (dFz (bOpV fIx 0 (dC (.int 3)))) (dC (.int 0)))) (sDrop (dCall (ct0 c__law_load) (daIo 0 daNil) [])) sNext)
  (sSeq (sIf (dTB (dOp fGt (dFz (bOpV fIx 0 (dC (.int 3)))) (dC (.int 0)))) (sSeq (sAsg (dOp fSub (dFz (bOpV fIx 0 (dC (.int 3)))) (dC (.int 1))) (gSubL 0 (dC (.int 3))))
  (sRet (dOp fMod (dFz (bC1 fInt (daCons (dFz (dCall (ct0 c__law_mix) (daCons (dFz (dOp fAdd (dFz (bOpV fIx 0 (dC (.int 2)))) (dFz (dOp fMul (dFz (bOpV fIx 0 (dC (.int 1)))) (dC (.int 1009)))))) (daCons (dFz (bOpV fIx 0 (dC (.int 4)))) daNil)) [])) daNil))) (dVar 1)))) sNext)
  (sSeq (sAsg (dOp fMod (dFz (bC1 fInt (daCons (dFz (bOpV fIx 0 (dC (.int 2)))) daNil))) (dVar 1)) (gN 2))
  (sSeq (sAsg (dOp fDiv (dFz (bC1 fInt (daCons (dFz (bOpV fIx 0 (dC (.int 2)))) daNil))) (dVar 1)) (gSubL 0 (dC (.int 2))))
  (sSeq (sIf (dTB (dOp (fEq false) (dFz (bOpV fIx 0 (dC (.int 2)))) (dC (.int 0)))) (sAsg (dUp (dC (.int 0))) (gSubL 0 (dC (.int 3)))) sNext)
  (sRet (dMv 2)))))))))
theorem body__law_take : ∀ ts QD, c__law_take ts QD → t__law_take (endsOf [true, false] QD fun _ _ => False) (startE 3 ts) := by
  intro ts QD h
  match ts, h with
  | [st, .fz (.int m)], ⟨hs, hm, k⟩ =>
    obtain ⟨ns, at', num, left, turn, seed, rfl, h0, h1⟩ := hs.ex
    unfold t__law_take sto
    walk_at "nrm"
    refine jnG (fun ρ => ∃ at' num left turn, ρ = [some (sto ns at' num left turn seed), some (.fz (.int (max 1 m))), none] ∧ 0 ≤ at' ∧ at' ≤ (ns.length : Int)) ?_ ?_
    · walk_at "nrm"
      refine ifD (fun _ => ?_) (fun _ => ?_)
      · walk_at "nrm"
        refine load_i h0 h1 fun at' num left r h0 h1 => ?_
        walk_at "nrm"
        exact ⟨_, _, _, _, by rw [mx], h0, h1⟩
      · walk_at "nrm"
        exact ⟨_, _, _, _, by rw [mx]; rfl, h0, h1⟩
    · rintro ρ ⟨at', num, left, turn, rfl, h0, h1⟩
      unfold sto
      walk_at "nrm"
      have hM : 0 < max 1 m := by omega
      refine ifD (fun _ => ?_) (fun _ => ?_)
      · walk_at "nrm"
        refine ⟨mul_r (by decide), mix_i fun r => ?_⟩
        walk_at "nrm"
        exact ⟨hM, k _ _ ⟨_, _, _, _, _, _, rfl, h0, h1⟩ (Int.emod_nonneg _ (by omega)) (Int.emod_lt_of_pos _ hM)⟩
      · walk_at "nrm"
        refine ⟨hM, div_n hM (by omega), ifD (fun _ => ?_) (fun _ => ?_)⟩
        · walk_at "nrm"
          exact k _ _ ⟨_, _, _, _, _, _, rfl, h0, h1⟩ (Int.emod_nonneg _ (by omega)) (Int.emod_lt_of_pos _ hM)
        · walk_at "nrm"
          exact k _ _ ⟨_, _, _, _, _, _, rfl, h0, h1⟩ (Int.emod_nonneg _ (by omega)) (Int.emod_lt_of_pos _ hM)
def c__law_pick : Ct0 := fun ts Q => match ts with
  | [st, .fz (.lst ds)] => Sto st ∧ 0 < ds.length ∧ ds.length < 2 ^ 62 ∧ ∀ st' d, Sto st' → d ∈ ds → Q (.fz d) [some st', none]
  | _ => False
theorem take_i {st : T} {m : Int} {k kx} (hs : Sto st) (hm : m < 2 ^ 62) (h : ∀ st' d, Sto st' → 0 ≤ d → d < max 1 m → k (.fz (.int d)) [some st', none]) : CallG (ct0 c__law_take) [st, .fz (.int m)] k kx := ⟨hs, hm, h⟩
/-- _law_pick: 0 store, 1 things -/
def t__law_pick : TSD := (sRet (bOpV fIx 1 (dFz (dCall (ct0 c__law_take) (daIo 0 (daCons (dFz (bC1 fLen (daIo 1 daNil))) daNil)) []))))
theorem body__law_pick : ∀ ts QD, c__law_pick ts QD → t__law_pick (endsOf [true, false] QD fun _ _ => False) (startE 2 ts) := by
  intro ts QD h
  match ts, h with
  | [st, .fz (.lst ds)], ⟨hs, h0, h1, k⟩ =>
    unfold t__law_pick
    walk_at "nrm"
    refine take_i hs (by omega) fun st' d hs' h2 h3 => ?_
    walk_at "nrm"
    have hl : d.toNat < ds.length := by omega
    exact exG ds[d.toNat] (by rw [atI_nn _ h2, List.getElem?_eq_getElem hl]) (k _ _ hs' (List.getElem_mem hl))
theorem pick_i {st : T} {ds : List D} {k kx} (hs : Sto st) (h0 : 0 < ds.length) (h1 : ds.length < 2 ^ 62) (h : ∀ st' d, Sto st' → d ∈ ds → k (.fz d) [some st', none]) : CallG (ct0 c__law_pick) [st, .fz (.lst ds)] k kx := ⟨hs, h0, h1, h⟩
def c__law_some : Ct0 := fun ts Q => match ts with
  | [st, .fz (.lst ds), .fz (.int m)] => Sto st ∧ ds.length < 2 ^ 20 ∧ 0 ≤ m ∧ ∀ st' es rest, Sto st' → (es ++ rest).Perm ds → (es.length : Int) = min m ds.length → Q (.ls (fzs es)) [some st', none, none]
  | _ => False
/-- _law_some: 0 store, 1 things, 2 many, 3 left, 4 chosen, 5 k -/
def t__law_some : TSD := (sSeq (sAsg (bC1 fList (daIo 1 daNil)) (gN 3))
  (sSeq (sAsg (dLst daNil) (gN 4))
  (sSeq (sFor (iR1 (daCons (dFz (bCN fMin2 (daCons (dVar 2) (daCons (dFz (bC1 fLen (daIo 3 daNil))) daNil)))) daNil)) (gN 5) (sDrop (dUp (bMut fAppend 4 (daCons (bMut fPopAt 3 (daCons (dFz (dCall (ct0 c__law_take) (daIo 0 (daCons (dFz (bC1 fLen (daIo 3 daNil))) daNil)) [])) daNil)) daNil)))))
  (sRet (dMv 4)))))
theorem body__law_some : ∀ ts QD, c__law_some ts QD → t__law_some (endsOf [true, false, false] QD fun _ _ => False) (startE 6 ts) := by
  intro ts QD h
  match ts, h with
  | [st, .fz (.lst ds), .fz (.int m)], ⟨hs, h0, hm, k⟩ =>
    unfold t__law_some
    walk_at "nrm"
    refine ⟨Nat.zero_le _, ?_, by omega, fun i ρ => ∃ st' left es o, ρ = [some st', some (.fz (.lst ds)), some (.fz (.int m)), some (.ls (fzs left)), some (.ls (fzs es)), o] ∧ Sto st' ∧ (es ++ left).Perm ds ∧ es.length = i, ?_, ?_, ?_⟩
    · omega
    · exact ⟨st, ds, [], none, rfl, hs, .refl _, rfl⟩
    · rintro i d ρ hi ⟨st', left, es, o, rfl, hs', hp, hl⟩
      obtain ⟨hi, rfl⟩ := rngD_at hi
      have hpl := hp.length_eq
      simp only [List.length_append] at hpl
      walk_at "nrm"
      refine take_i hs' (by omega) fun st2 d hs2 h2 h3 => ?_
      walk_at "nrm"
      have h4 : d < (left.length : Int) := by omega
      refine ⟨by omega, by omega, exS h2 h4 ?_⟩
      walk_at "nrm"
      refine exN (by omega) fun x hx _ => ?_
      walk_at "nrm"
      have : es.length ≤ 2 ^ 20 := by omega
      exact ⟨size_lt this (by decide), st2, _, es ++ [x], _, rfl, hs2, perm_pop hx hp, by simp [hl]⟩
    · rintro ρ ⟨st', left, es, o, rfl, hs', hp, hl⟩
      walk_at "nrm"
      refine k _ _ left hs' hp ?_
      rw [rngD_len] at hl
      omega
def c__law_same : Ct0 := fun ts Q => match ts with
  | [.fz (.bl a), .fz (.bl b)] => Q (.fz (.bl (decide (a = b)))) [none, none]
  | _ => False
/-- _law_same: 0 actual, 1 due, 2 k -/
def t__law_same : TSD := (sSeq (sIf (dTB (bUnV (fIsN false) 1)) (sRet (bUnV (fIsN false) 0)) sNext)
  (sSeq (sIf (dTru (bUnV (fIsi "bool") 1)) (sRet (dAndV (bUnV (fIsi "bool") 0) (dOp (fEq false) (dVar 0) (dVar 1)))) sNext)
  sNever))
theorem body__law_same : ∀ ts QD, c__law_same ts QD → t__law_same (endsOf [false, false] QD fun _ _ => False) (startE 3 ts) := by
  intro ts QD h
  match ts, h with
  | [.fz (.bl a), .fz (.bl b)], k =>
    unfold t__law_same
    walk_at "nrm"
    exact k
theorem some_i {st : T} {ds : List D} {m : Int} {k kx} (hs : Sto st) (h0 : ds.length < 2 ^ 20) (hm : 0 ≤ m) (h : ∀ st' es rest, Sto st' → (es ++ rest).Perm ds → (es.length : Int) = min m ds.length → k (.ls (fzs es)) [some st', none, none]) :
    CallG (ct0 c__law_some) [st, .fz (.lst ds), .fz (.int m)] k kx := ⟨hs, h0, hm, h⟩
theorem same_i {a b : Bool} {k kx} (h : k (.fz (.bl (decide (a = b)))) [none, none]) : CallG (ct0 c__law_same) [.fz (.bl a), .fz (.bl b)] k kx := h
def c__law_letter : Ct0 := fun ts Q => match ts with
  | [st] => Sto st ∧ ∀ st' n, Sto st' → Q (.fz (.int n)) [some st']
  | _ => False
/-- _law_letter: 0 store -/
def t__law_letter : TSD := (sRet (dCall (ct0 c__law_pick) (daIo 0 (daCons (dFz (dLst (daCons (dC (.int 0)) (daCons (dC (.int 0)) (daCons (dC (.int 0)) (daCons (dC (.int 1)) (daCons (dC (.int 1)) (daCons (dC (.int 1)) (daCons (dC (.int 2)) (daCons (dC (.int 2)) (daCons (dC (.int 7)) (daCons (dC (.int 30)) (daCons (dFz (dUn fNeg (dC (.int 1)))) (daCons (dC (.int 999999999999)) (daCons (dFz (dUn fNeg (dC (.int 999999999999)))) (daCons (dFz (dCall (ct0 c__law_take) (daIo 0 (daCons (dC (.int 120)) daNil)) [])) daNil)))))))))))))))) daNil)) []))
theorem body__law_letter : ∀ ts QD, c__law_letter ts QD → t__law_letter (endsOf [true] QD fun _ _ => False) (startE 1 ts) := by
  intro ts QD h
  match ts, h with
  | [st], ⟨hs, k⟩ =>
    unfold t__law_letter
    walk_at "nrm"
    refine take_i hs (by decide) fun st' d hs' h2 h3 => ?_
    walk_at "nrm"
    refine ⟨size_le (m := 14) (by decide) (by decide), ?_⟩
    refine pick_i hs' (by simp) (by simp) fun st2 e hs2 he => ?_
    walk_at "nrm"
    obtain ⟨n, _, rfl⟩ := mem_ints (ns := [0, 0, 0, 1, 1, 1, 2, 2, 7, 30, -1, 999999999999, -999999999999, d]) he
    exact k _ _ hs2
theorem letter_i {st : T} {k kx} (hs : Sto st) (h : ∀ st' n, Sto st' → k (.fz (.int n)) [some st']) : CallG (ct0 c__law_letter) [st] k kx := ⟨hs, h⟩
/-! ### two ways to see a subsequence -/
theorem sub_hit {W xs : List Int} {f : Nat} {x : Int} (h : W[f]? = some x) : (W.drop f).isSublist (x :: xs) = (W.drop (f + 1)).isSublist xs := by
  rw [List.getElem?_eq_some_iff] at h
  obtain ⟨hf, rfl⟩ := h
  rw [List.drop_eq_getElem_cons hf]
  simp [List.isSublist]
theorem sub_miss {W xs : List Int} {f : Nat} {x : Int} (h : W[f]? ≠ some x) : (W.drop f).isSublist (x :: xs) = (W.drop f).isSublist xs := by
  by_cases hf : f < W.length
  · rw [List.drop_eq_getElem_cons hf]
    have : W[f] ≠ x := fun e => h (by rw [List.getElem?_eq_getElem hf, e])
    simp [List.isSublist, this]
  · rw [List.drop_eq_nil_of_le (by omega)]
    simp [List.isSublist]
theorem sub_end {W : List Int} {f : Nat} (h : f ≤ W.length) : (W.drop f).isSublist [] = decide (f = W.length) := by
  by_cases hf : f < W.length
  · rw [List.drop_eq_getElem_cons hf]
    simp [List.isSublist]; omega
  · rw [List.drop_eq_nil_of_le (by omega)]
    simp [List.isSublist]; omega
theorem sub_rev (a b : List Int) : a.reverse.isSublist b.reverse = a.isSublist b := by
  rw [Bool.eq_iff_iff, List.isSublist_iff_sublist, List.isSublist_iff_sublist, List.reverse_sublist]
def Sq (x : D) (ns : List Int) : Prop := x = .lst (intL ns) ∨ x = .tup (intL ns)
def c_reads : Ct0 := fun ts Q => match ts with
  | [.fz w, .fz p] => ∃ ws ps, Sq w ws ∧ Sq p ps ∧ Q (.fz (.bl ((pick ps 0 2).isSublist ws))) [none, none]
  | _ => False
/-- reads: 0 word, 1 path, 2 wanted, 3 found, 4 letter -/
def t_reads : TSD := (sSeq (sAsg (dStep 2 (dVar 1) dNoPart) (gN 2))
  (sSeq (sAsg (dUp (dC (.int 0))) (gN 3))
  (sSeq (sFor (iSeq (dVar 0)) (gN 4) (sIf (dAnd (dTB (dOp fLt (dVar 3) (dFz (bC1 fLen (daIo 2 daNil))))) (dTB (dOp (fEq false) (dVar 4) (dFz (bOpV fIx 2 (dVar 3)))))) (sAug 3 (fun i j => i + j) (dC (.int 1))) sNext))
  (sRet (dOp (fEq false) (dVar 3) (dFz (bC1 fLen (daIo 2 daNil))))))))
theorem body_reads : ∀ ts QD, c_reads ts QD → t_reads (endsOf [false, false] QD fun _ _ => False) (startE 5 ts) := by
  intro ts QD h
  match ts, h with
  | [.fz w, .fz p], ⟨ws, ps, hw, hp, k⟩ =>
    rcases hw with rfl | rfl <;> rcases hp with rfl | rfl
    · unfold t_reads
      walk_at "nrm"
      have e0 : (pick ps 0 2).drop 0 = pick ps 0 2 := rfl
      refine ⟨fun i ρ => ∃ (f : Nat) (o : Option T), ρ = [some (.fz (.lst (intL ws))), some (.fz (.lst (intL ps))), some (.ls (fzs (intL (pick ps 0 2)))), some (.fz (.int f)), o] ∧ f ≤ (pick ps 0 2).length ∧ ((pick ps 0 2).drop f).isSublist (ws.drop i) = (pick ps 0 2).isSublist ws, ?_, ?_, ?_⟩
      · exact ⟨0, none, rfl, Nat.zero_le _, rfl⟩
      · rintro i d ρ hi ⟨f, o, rfl, hf, he⟩
        obtain ⟨x, hx, rfl⟩ := ints_some hi
        have hd : ws.drop i = x :: ws.drop (i + 1) := by
          rw [List.getElem?_eq_some_iff] at hx
          obtain ⟨h1, rfl⟩ := hx
          exact List.drop_eq_getElem_cons h1
        walk_at "nrm"
        refine ifD (fun h1 => ?_) (fun h1 => ?_)
        · walk_at "nrm"
          refine exI (by omega) (by omega) fun y hy => ?_
          walk_at "nrm"
          rw [Int.toNat_natCast] at hy
          refine ifD (fun h2 => ?_) (fun h2 => ?_)
          · walk_at "nrm"
            subst h2
            refine ⟨f + 1, _, by rfl, by omega, ?_⟩
            rw [← he, hd, sub_hit hy]
          · walk_at "nrm"
            refine ⟨f, _, by rfl, hf, ?_⟩
            rw [← he, hd, sub_miss (by rw [hy]; exact fun e => h2 (Option.some.inj e).symm)]
        · walk_at "nrm"
          refine ⟨f, _, by rfl, hf, ?_⟩
          rw [← he, hd, sub_miss (by rw [List.getElem?_eq_none (by omega)]; exact fun e => nomatch e)]
      · rintro ρ ⟨f, o, rfl, hf, he⟩
        walk_at "nrm"
        rw [ints_len, List.drop_length, sub_end hf] at he
        rw [← he] at k
        have e2 : decide ((f : Int) = ((pick ps 0 2).length : Int)) = decide (f = (pick ps 0 2).length) := by rw [decide_eq_decide]; omega
        rw [e2]
        exact k
    · unfold t_reads
      walk_at "nrm"
      have e0 : (pick ps 0 2).drop 0 = pick ps 0 2 := rfl
      refine ⟨fun i ρ => ∃ (f : Nat) (o : Option T), ρ = [some (.fz (.lst (intL ws))), some (.fz (.tup (intL ps))), some (.fz (.tup (intL (pick ps 0 2)))), some (.fz (.int f)), o] ∧ f ≤ (pick ps 0 2).length ∧ ((pick ps 0 2).drop f).isSublist (ws.drop i) = (pick ps 0 2).isSublist ws, ?_, ?_, ?_⟩
      · exact ⟨0, none, rfl, Nat.zero_le _, rfl⟩
      · rintro i d ρ hi ⟨f, o, rfl, hf, he⟩
        obtain ⟨x, hx, rfl⟩ := ints_some hi
        have hd : ws.drop i = x :: ws.drop (i + 1) := by
          rw [List.getElem?_eq_some_iff] at hx
          obtain ⟨h1, rfl⟩ := hx
          exact List.drop_eq_getElem_cons h1
        walk_at "nrm"
        refine ifD (fun h1 => ?_) (fun h1 => ?_)
        · walk_at "nrm"
          refine exI (by omega) (by omega) fun y hy => ?_
          walk_at "nrm"
          rw [Int.toNat_natCast] at hy
          refine ifD (fun h2 => ?_) (fun h2 => ?_)
          · walk_at "nrm"
            subst h2
            refine ⟨f + 1, _, by rfl, by omega, ?_⟩
            rw [← he, hd, sub_hit hy]
          · walk_at "nrm"
            refine ⟨f, _, by rfl, hf, ?_⟩
            rw [← he, hd, sub_miss (by rw [hy]; exact fun e => h2 (Option.some.inj e).symm)]
        · walk_at "nrm"
          refine ⟨f, _, by rfl, hf, ?_⟩
          rw [← he, hd, sub_miss (by rw [List.getElem?_eq_none (by omega)]; exact fun e => nomatch e)]
      · rintro ρ ⟨f, o, rfl, hf, he⟩
        walk_at "nrm"
        rw [ints_len, List.drop_length, sub_end hf] at he
        rw [← he] at k
        have e2 : decide ((f : Int) = ((pick ps 0 2).length : Int)) = decide (f = (pick ps 0 2).length) := by rw [decide_eq_decide]; omega
        rw [e2]
        exact k
    · unfold t_reads
      walk_at "nrm"
      have e0 : (pick ps 0 2).drop 0 = pick ps 0 2 := rfl
      refine ⟨fun i ρ => ∃ (f : Nat) (o : Option T), ρ = [some (.fz (.tup (intL ws))), some (.fz (.lst (intL ps))), some (.ls (fzs (intL (pick ps 0 2)))), some (.fz (.int f)), o] ∧ f ≤ (pick ps 0 2).length ∧ ((pick ps 0 2).drop f).isSublist (ws.drop i) = (pick ps 0 2).isSublist ws, ?_, ?_, ?_⟩
      · exact ⟨0, none, rfl, Nat.zero_le _, rfl⟩
      · rintro i d ρ hi ⟨f, o, rfl, hf, he⟩
        obtain ⟨x, hx, rfl⟩ := ints_some hi
        have hd : ws.drop i = x :: ws.drop (i + 1) := by
          rw [List.getElem?_eq_some_iff] at hx
          obtain ⟨h1, rfl⟩ := hx
          exact List.drop_eq_getElem_cons h1
        walk_at "nrm"
        refine ifD (fun h1 => ?_) (fun h1 => ?_)
        · walk_at "nrm"
          refine exI (by omega) (by omega) fun y hy => ?_
          walk_at "nrm"
          rw [Int.toNat_natCast] at hy
          refine ifD (fun h2 => ?_) (fun h2 => ?_)
          · walk_at "nrm"
            subst h2
            refine ⟨f + 1, _, by rfl, by omega, ?_⟩
            rw [← he, hd, sub_hit hy]
          · walk_at "nrm"
            refine ⟨f, _, by rfl, hf, ?_⟩
            rw [← he, hd, sub_miss (by rw [hy]; exact fun e => h2 (Option.some.inj e).symm)]
        · walk_at "nrm"
          refine ⟨f, _, by rfl, hf, ?_⟩
          rw [← he, hd, sub_miss (by rw [List.getElem?_eq_none (by omega)]; exact fun e => nomatch e)]
      · rintro ρ ⟨f, o, rfl, hf, he⟩
        walk_at "nrm"
        rw [ints_len, List.drop_length, sub_end hf] at he
        rw [← he] at k
        have e2 : decide ((f : Int) = ((pick ps 0 2).length : Int)) = decide (f = (pick ps 0 2).length) := by rw [decide_eq_decide]; omega
        rw [e2]
        exact k
    · unfold t_reads
      walk_at "nrm"
      have e0 : (pick ps 0 2).drop 0 = pick ps 0 2 := rfl
      refine ⟨fun i ρ => ∃ (f : Nat) (o : Option T), ρ = [some (.fz (.tup (intL ws))), some (.fz (.tup (intL ps))), some (.fz (.tup (intL (pick ps 0 2)))), some (.fz (.int f)), o] ∧ f ≤ (pick ps 0 2).length ∧ ((pick ps 0 2).drop f).isSublist (ws.drop i) = (pick ps 0 2).isSublist ws, ?_, ?_, ?_⟩
      · exact ⟨0, none, rfl, Nat.zero_le _, rfl⟩
      · rintro i d ρ hi ⟨f, o, rfl, hf, he⟩
        obtain ⟨x, hx, rfl⟩ := ints_some hi
        have hd : ws.drop i = x :: ws.drop (i + 1) := by
          rw [List.getElem?_eq_some_iff] at hx
          obtain ⟨h1, rfl⟩ := hx
          exact List.drop_eq_getElem_cons h1
        walk_at "nrm"
        refine ifD (fun h1 => ?_) (fun h1 => ?_)
        · walk_at "nrm"
          refine exI (by omega) (by omega) fun y hy => ?_
          walk_at "nrm"
          rw [Int.toNat_natCast] at hy
          refine ifD (fun h2 => ?_) (fun h2 => ?_)
          · walk_at "nrm"
            subst h2
            refine ⟨f + 1, _, by rfl, by omega, ?_⟩
            rw [← he, hd, sub_hit hy]
          · walk_at "nrm"
            refine ⟨f, _, by rfl, hf, ?_⟩
            rw [← he, hd, sub_miss (by rw [hy]; exact fun e => h2 (Option.some.inj e).symm)]
        · walk_at "nrm"
          refine ⟨f, _, by rfl, hf, ?_⟩
          rw [← he, hd, sub_miss (by rw [List.getElem?_eq_none (by omega)]; exact fun e => nomatch e)]
      · rintro ρ ⟨f, o, rfl, hf, he⟩
        walk_at "nrm"
        rw [ints_len, List.drop_length, sub_end hf] at he
        rw [← he] at k
        have e2 : decide ((f : Int) = ((pick ps 0 2).length : Int)) = decide (f = (pick ps 0 2).length) := by rw [decide_eq_decide]; omega
        rw [e2]
        exact k
def c__law_read : Ct0 := fun ts Q => match ts with
  | [.fz (.lst a), .fz (.lst b)] => ∃ ws bs, a = intL ws ∧ b = intL bs ∧ ws.length ≤ 1000000 ∧ Q (.fz (.bl (bs.isSublist ws))) [none, none]
  | _ => False
/-- _law_read: 0 word, 1 bundles, 2 left, 3 k -/
def t__law_read : TSD := (sSeq (sAsg (bC1 fList (daIo 1 daNil)) (gN 2))
  (sSeq (sFor (iR1 (daCons (dFz (bC1 fLen (daIo 0 daNil))) daNil)) (gN 3) (sIf (dAnd (dTB (dOp fGt (dFz (bC1 fLen (daIo 2 daNil))) (dC (.int 0)))) (dTB (dOp (fEq false) (dFz (bOpV fIx 2 (dFz (dUn fNeg (dC (.int 1)))))) (dFz (bOpV fIx 0 (dFz (dOp fSub (dFz (dOp fSub (dFz (bC1 fLen (daIo 0 daNil))) (dC (.int 1)))) (dVar 3)))))))) (sDrop (dUp (bMut fPop 2 fun ρ Q _ => Q [] ρ))) sNext))
  (sRet (dOp (fEq false) (dFz (bC1 fLen (daIo 2 daNil))) (dC (.int 0))))))
theorem body__law_read : ∀ ts QD, c__law_read ts QD → t__law_read (endsOf [false, false] QD fun _ _ => False) (startE 4 ts) := by
  intro ts QD h
  match ts, h with
  | [.fz (.lst a), .fz (.lst b)], ⟨ws, bs, e1, e2, hl, k⟩ =>
    subst e1 e2
    unfold t__law_read
    walk_at "nrm"
    refine ⟨by omega, by omega, fun i ρ => ∃ left o, ρ = [some (.fz (.lst (intL ws))), some (.fz (.lst (intL bs))), some (.ls (fzs (intL left))), o] ∧ (left.reverse.isSublist (ws.reverse.drop i) = bs.reverse.isSublist ws.reverse), ?_, ?_, ?_⟩
    · exact ⟨bs, none, rfl, rfl⟩
    · rintro i d ρ hi ⟨left, o, rfl, he⟩
      obtain ⟨hi, rfl⟩ := rngD_at hi
      walk_at "nrm"
      have hk : ws.length - 1 - i < ws.length := by omega
      have hd : ws.reverse.drop i = ws[ws.length - 1 - i] :: ws.reverse.drop (i + 1) := by
        rw [List.drop_eq_getElem_cons (by simp; omega), List.getElem_reverse]
      refine ifD (fun h1 => ?_) (fun h1 => ?_)
      · walk_at "nrm"
        have hl0 : left ≠ [] := fun e => by subst e; simp at h1
        refine exG (.int (left.getLast hl0)) (by rw [ints_at, ← List.getLast?_eq_getElem?, List.getLast?_eq_getLast hl0]; rfl) ?_
        walk_at "nrm"
        refine exI (by omega) (by omega) fun y hy => ?_
        have e1 : ((ws.length : Int) - 1 - (0 + (i : Nat))).toNat = ws.length - 1 - i := by omega
        rw [e1, List.getElem?_eq_getElem hk] at hy
        cases hy
        walk_at "nrm"
        have hr : left.reverse = left.getLast hl0 :: left.dropLast.reverse := by
          conv => lhs; rw [← List.dropLast_concat_getLast hl0]
          simp
        refine ifD (fun h2 => ?_) (fun h2 => ?_)
        · walk_at "nrm"
          refine exG (.int (left.getLast hl0)) (by rw [ints_at, ← List.getLast?_eq_getElem?, List.getLast?_eq_getLast hl0]; rfl) ?_
          walk_at "nrm"
          refine ⟨left.dropLast, _, by rw [ints_drop], ?_⟩
          rw [← he, hd, hr, h2]
          simp [List.isSublist]
        · walk_at "nrm"
          refine ⟨left, _, by rfl, ?_⟩
          rw [← he, hd, hr]
          simp [List.isSublist, h2]
      · walk_at "nrm"
        have hl0 : left = [] := List.length_eq_zero_iff.mp (by omega)
        subst hl0
        refine ⟨[], _, by rfl, ?_⟩
        rw [← he, hd]
        simp [List.isSublist]
    · rintro ρ ⟨left, o, rfl, he⟩
      walk_at "nrm"
      rw [rngD_len] at he
      have e0 : ws.reverse.drop (ws.length : Int).toNat = [] := by simp
      rw [e0, sub_rev] at he
      have e1 := sub_end (W := left.reverse) (f := 0) (Nat.zero_le _)
      rw [List.drop_zero, he] at e1
      rw [e1] at k
      have e2 : decide ((left.length : Int) = 0) = decide (0 = left.reverse.length) := by rw [decide_eq_decide, List.length_reverse]; omega
      rw [e2]
      exact k
def c__law_part_of : Ct0 := fun ts Q => match ts with
  | [st, .fz (.lst ws), .fz (.int m)] => Sto st ∧ 0 < ws.length ∧ ws.length ≤ 1000 ∧ 0 ≤ m ∧ m ≤ 1000 ∧ AllI ws ∧ ∀ st' ps, Sto st' → 0 < ps.length → ps.length ≤ ws.length → AllI ps → Q (.ls (fzs ps)) [some st', none, none]
  | _ => False
/-- _law_part_of: 0 store, 1 word, 2 most, 3 places, 4 k -/
def t__law_part_of : TSD := (sSeq (sAsg (dCall (ct0 c__law_some) (daIo 0 (daCons (dFz (dLstRg (dR1 (dFz (bC1 fLen (daIo 1 daNil)))))) (daCons (dFz (dOp fAdd (dC (.int 1)) (dFz (dCall (ct0 c__law_take) (daIo 0 (daCons (dVar 2) daNil)) [])))) daNil))) []) (gN 3))
  (sRet (dLc (iSeq (dFz (bC1 fSorted (daIo 3 daNil)))) (gN 4) dYes (bOpV fIx 1 (dVar 4)) [4])))
theorem body__law_part_of : ∀ ts QD, c__law_part_of ts QD → t__law_part_of (endsOf [true, false, false] QD fun _ _ => False) (startE 5 ts) := by
  intro ts QD h
  match ts, h with
  | [st, .fz (.lst ws), .fz (.int m)], ⟨hs, hw0, hw1, hm0, hm1, hw, k⟩ =>
    unfold t__law_part_of
    walk_at "nrm"
    refine ⟨by unfold RgOk; omega, take_i hs (by omega) fun st2 t hs2 ht0 ht1 => ?_⟩
    walk_at "nrm"
    refine some_i hs2 (by rw [rngD_len]; omega) (by omega) fun st3 es rest hs3 hp hlen => ?_
    rw [rngD_len] at hlen
    have he : AllI es := fun d hd => by
      have := hp.mem_iff.mp (List.mem_append_left _ hd)
      simp only [rngD, List.mem_map] at this
      obtain ⟨j, _, e⟩ := this
      exact ⟨_, e.symm⟩
    obtain ⟨ns, rfl⟩ := he.ints
    have hb : ∀ n ∈ ns, 0 ≤ n ∧ n < (ws.length : Int) := fun n hn => by
      have := hp.mem_iff.mp (List.mem_append_left _ (List.mem_map.mpr ⟨n, hn, rfl⟩ : D.int n ∈ intL ns))
      simp only [rngD, List.mem_map, List.mem_range] at this
      obtain ⟨j, h1, e⟩ := this
      cases e
      omega
    rw [ints_len] at hlen
    walk_at "nrm"
    refine exG ns rfl fun ms hms _ => ?_
    walk_at "nrm"
    refine ⟨fun i acc ρ => ∃ qs, ρ = [some st3, some (.fz (.lst ws)), some (.fz (.int m)), some (.ls (fzs (intL ns))), none] ∧ acc = fzs qs ∧ AllI qs ∧ qs.length = i, ?_, ?_, ?_⟩
    · exact ⟨[], rfl, rfl, allI_nil, rfl⟩
    · rintro i d acc ρ hi ⟨qs, rfl, rfl, hq, hl⟩
      obtain ⟨n, hn, rfl⟩ := ints_some hi
      obtain ⟨hn0, hn1⟩ := hb n (hms.mem_iff.mp (List.mem_of_getElem? hn))
      have hil : i < ms.length := by
        rcases Nat.lt_or_ge i ms.length with h | h
        · exact h
        · rw [List.getElem?_eq_none h] at hn; cases hn
      have := hms.length_eq
      walk_at "nrm"
      refine exA hw hn0 hn1 fun x hx _ => ?_
      walk_at "nrm"
      exact ⟨size_lt (m := 1000) (by omega) (by decide), qs ++ [.int x], fzs_snoc _ _, hq.snoc, by simp [hl]⟩
    · rintro acc ρ ⟨qs, rfl, rfl, hq, hl⟩
      walk_at "nrm"
      have := hms.length_eq
      rw [List.length_map] at hl
      exact k _ _ hs3 (by omega) (by omega) hq
theorem part_i {st : T} {ws : List D} {m : Int} {k kx} (hs : Sto st) (hw0 : 0 < ws.length) (hw1 : ws.length ≤ 1000) (hm0 : 0 ≤ m) (hm1 : m ≤ 1000) (hw : AllI ws)
    (h : ∀ st' ps, Sto st' → 0 < ps.length → ps.length ≤ ws.length → AllI ps → k (.ls (fzs ps)) [some st', none, none]) : CallG (ct0 c__law_part_of) [st, .fz (.lst ws), .fz (.int m)] k kx := ⟨hs, hw0, hw1, hm0, hm1, hw, h⟩
def BI (ws : List D) (m shape at' : Int) (j : Nat) (ρ : Dl.Env) : Prop := ∃ st part, ρ = [some st, some (.fz (.lst ws)), some (.fz (.int m)), some (.fz (.int shape)), none, some (.ls (fzs part)), some (.fz (.int at'))] ∧ Sto st ∧ at' < (part.length : Int) ∧ part.length ≤ 1000 + j ∧ AllI part
def c__law_bundles : Ct0 := fun ts Q => match ts with
  | [st, .fz (.lst ws), .fz (.int m)] => Sto st ∧ ws.length ≤ 1000 ∧ 0 ≤ m ∧ m ≤ 1000 ∧ AllI ws ∧ ∀ st' ps, Sto st' → 0 < ps.length → ps.length ≤ 1100 → AllI ps → Q (.ls (fzs ps)) [some st', none, none]
  | _ => False
/-- _law_bundles: 0 store, 1 word, 2 most, 3 shape, 4 k, 5 part, 6 at -/
def t__law_bundles : TSD := (sSeq (sAsg (dCall (ct0 c__law_take) (daIo 0 (daCons (dC (.int 7)) daNil)) []) (gN 3))
  (sSeq (sIf (dOr (dTB (dOp (fEq false) (dVar 3) (dC (.int 0)))) (dTB (dOp (fEq false) (dFz (bC1 fLen (daIo 1 daNil))) (dC (.int 0))))) (sRet (dLc (iR1 (daCons (dFz (dOp fAdd (dC (.int 1)) (dFz (dCall (ct0 c__law_take) (daIo 0 (daCons (dC (.int 5)) daNil)) [])))) daNil)) (gN 4) dYes (dCall (ct0 c__law_letter) (daIo 0 daNil) []) [4])) sNext)
  (sSeq (sAsg (dCall (ct0 c__law_part_of) (daIo 0 (daCons (dVar 1) (daCons (dVar 2) daNil))) []) (gN 5))
  (sSeq (sAsg (dCall (ct0 c__law_take) (daIo 0 (daCons (dFz (bC1 fLen (daIo 5 daNil))) daNil)) []) (gN 6))
  (sJn (sIf (dOr (dTB (dOp (fEq false) (dVar 3) (dC (.int 3)))) (dTB (dOp (fEq false) (dVar 3) (dC (.int 6))))) (sDrop (dUp (bMut fInsert 5 (daCons (dVar 6) (daCons (dFz (bOpV fIx 5 (dVar 6))) daNil))))) sNext)
  (sJn (sIf (dTB (dOp (fEq false) (dVar 3) (dC (.int 6)))) (sDrop (dUp (bMut fAppend 5 (daCons (dFz (bOpV fIx 5 (dFz (dCall (ct0 c__law_take) (daIo 0 (daCons (dFz (bC1 fLen (daIo 5 daNil))) daNil)) [])))) daNil)))) sNext)
  (sJn (sIf (dAnd (dTB (dOp (fEq false) (dVar 3) (dC (.int 4)))) (dTB (dOp fGt (dVar 6) (dC (.int 0))))) (sAsg (dOp fAdd (dFz (dOp fAdd (dFz (dSlV 5 dNoPart (dPart (dFz (dOp fSub (dVar 6) (dC (.int 1))))))) (dFz (dLst (daCons (dFz (bOpV fIx 5 (dVar 6))) (daCons (dFz (bOpV fIx 5 (dFz (dOp fSub (dVar 6) (dC (.int 1)))))) daNil)))))) (dFz (dSlV 5 (dPart (dFz (dOp fAdd (dVar 6) (dC (.int 1))))) dNoPart))) (gN 5)) sNext)
  (sJn (sIf (dTB (dOp (fEq false) (dVar 3) (dC (.int 5)))) (sDrop (dUp (bMut fInsert 5 (daCons (dFz (dCall (ct0 c__law_take) (daIo 0 (daCons (dFz (dOp fAdd (dFz (bC1 fLen (daIo 5 daNil))) (dC (.int 1)))) daNil)) [])) (daCons (dFz (dCall (ct0 c__law_letter) (daIo 0 daNil) [])) daNil))))) sNext)
  (sJn (sIf (dAnd (dTB (dOp (fEq false) (dVar 3) (dC (.int 2)))) (dTB (dOp (fEq false) (dFz (dCall (ct0 c__law_take) (daIo 0 (daCons (dC (.int 2)) daNil)) [])) (dC (.int 0))))) (sAsg (bUnV fRev 5) (gN 5)) sNext)
  (sRet (dMv 5)))))))))))
theorem body__law_bundles : ∀ ts QD, c__law_bundles ts QD → t__law_bundles (endsOf [true, false, false] QD fun _ _ => False) (startE 7 ts) := by
  intro ts QD h
  match ts, h with
  | [st, .fz (.lst ws), .fz (.int m)], ⟨hs, hw1, hm0, hm1, hw, k⟩ =>
    unfold t__law_bundles
    walk_at "nrm"
    refine take_i hs (by omega) fun st shape hs h0 h1 => ?_
    walk_at "nrm"
    refine ifD (fun _ => ?_) (fun _ => ?_)
    rotate_left
    walk_at "nrm"
    refine ifD (fun _ => ?_) (fun hw0 => ?_)
    rotate_left
    · walk_at "nrm"
      refine part_i hs (by omega) hw1 hm0 hm1 hw fun st part hs p0 p1 hp => ?_
      walk_at "nrm"
      refine take_i hs (by omega) fun st at' hs a0 a1 => ?_
      walk_at "nrm"
      refine jnG (BI ws m shape at' 1) ?_ ?_
      · walk_at "nrm"
        refine ifD (fun _ => ?_) (fun _ => ?_)
        rotate_left
        walk_at "nrm"
        refine ifD (fun _ => ?_) (fun _ => ?_)
        rotate_left
        · walk_at "nrm"
          exact ⟨st, part, rfl, hs, by omega, by omega, hp⟩
        all_goals
          walk_at "nrm"
          refine exA hp a0 (by omega) fun x hx _ => ?_
          walk_at "nrm"
          exact ⟨size_lt (m := 2000) (by omega) (by decide), a0, by omega, st, _, rfl, hs, by simp; omega, by simp; omega, ((hp.take _).app (allI_nil.cons)).app (hp.drop _)⟩
      · rintro ρ ⟨st, part, rfl, hs, p0, p1, hp⟩
        walk_at "nrm"
        refine jnG (BI ws m shape at' 2) ?_ ?_
        · walk_at "nrm"
          refine ifD (fun _ => ?_) (fun _ => ?_)
          · walk_at "nrm"
            refine take_i hs (by omega) fun st n hs n0 n1 => ?_
            walk_at "nrm"
            refine exA hp n0 (by omega) fun x hx _ => ?_
            walk_at "nrm"
            exact ⟨size_lt (m := 2000) (by omega) (by decide), st, _, rfl, hs, by simp; omega, by simp; omega, hp.snoc⟩
          · walk_at "nrm"
            exact ⟨st, part, rfl, hs, by omega, by omega, hp⟩
        · rintro ρ ⟨st, part, rfl, hs, p0, p1, hp⟩
          walk_at "nrm"
          refine jnG (BI ws m shape at' 3) ?_ ?_
          · walk_at "nrm"
            refine ifD (fun _ => ?_) (fun _ => ?_)
            · walk_at "nrm"
              refine ifD (fun _ => ?_) (fun _ => ?_)
              · walk_at "nrm"
                refine exA hp a0 (by omega) fun x hx _ => ?_
                walk_at "nrm"
                refine exA hp (by omega) (by omega) fun y hy _ => ?_
                walk_at "nrm"
                rw [cut_some part (by omega), cut_from part (by omega)]
                refine ⟨size_le (m := 10) (by decide) (by decide), size_le (m := 2000) (by simp; omega) (by decide), size_le (m := 4000) (by simp; omega) (by decide), st, _, rfl, hs, by simp; omega, by simp; omega, ((hp.take _).app (allI_nil.cons.cons)).app (hp.drop _)⟩
              · walk_at "nrm"
                exact ⟨st, part, rfl, hs, by omega, by omega, hp⟩
            · walk_at "nrm"
              exact ⟨st, part, rfl, hs, by omega, by omega, hp⟩
          · rintro ρ ⟨st, part, rfl, hs, p0, p1, hp⟩
            walk_at "nrm"
            refine jnG (BI ws m shape at' 4) ?_ ?_
            · walk_at "nrm"
              refine ifD (fun _ => ?_) (fun _ => ?_)
              · walk_at "nrm"
                refine take_i hs (by omega) fun st n hs n0 n1 => ?_
                walk_at "nrm"
                refine letter_i hs fun st x hs => ?_
                walk_at "nrm"
                exact ⟨size_lt (m := 2000) (by omega) (by decide), n0, by omega, st, _, rfl, hs, by simp; omega, by simp; omega, ((hp.take _).app (allI_nil.cons)).app (hp.drop _)⟩
              · walk_at "nrm"
                exact ⟨st, part, rfl, hs, by omega, by omega, hp⟩
            · rintro ρ ⟨st, part, rfl, hs, p0, p1, hp⟩
              walk_at "nrm"
              refine jnG (BI ws m shape at' 5) ?_ ?_
              · walk_at "nrm"
                refine ifD (fun _ => ?_) (fun _ => ?_)
                · walk_at "nrm"
                  refine take_i hs (by omega) fun st n hs n0 n1 => ?_
                  walk_at "nrm"
                  refine ifD (fun _ => ?_) (fun _ => ?_)
                  · walk_at "nrm"
                    exact ⟨st, _, rfl, hs, by simp; omega, by simp; omega, hp.rev⟩
                  · walk_at "nrm"
                    exact ⟨st, part, rfl, hs, by omega, by omega, hp⟩
                · walk_at "nrm"
                  exact ⟨st, part, rfl, hs, by omega, by omega, hp⟩
              · rintro ρ ⟨st, part, rfl, hs, p0, p1, hp⟩
                walk_at "nrm"
                exact k _ _ hs (by omega) (by omega) hp
    all_goals
      walk_at "nrm"
      refine take_i hs (by omega) fun st n hs n0 n1 => ?_
      walk_at "nrm"
      refine ⟨by omega, by omega, fun i acc ρ => ∃ st qs, ρ = [some st, some (.fz (.lst ws)), some (.fz (.int m)), some (.fz (.int shape)), none, none, none] ∧ acc = fzs qs ∧ AllI qs ∧ qs.length = i ∧ Sto st, ?_, ?_, ?_⟩
      · exact ⟨st, [], rfl, rfl, allI_nil, rfl, hs⟩
      · rintro i d acc ρ hi ⟨st, qs, rfl, rfl, hq, hl, hs⟩
        obtain ⟨hi, rfl⟩ := rngD_at hi
        walk_at "nrm"
        refine letter_i hs fun st x hs => ?_
        walk_at "nrm"
        exact ⟨size_lt (m := 1000) (by omega) (by decide), st, qs ++ [.int x], rfl, fzs_snoc _ _, hq.snoc, by simp [hl], hs⟩
      · rintro acc ρ ⟨st, qs, rfl, rfl, hq, hl, hs⟩
        walk_at "nrm"
        rw [rngD_len] at hl
        exact k _ _ hs (by omega) (by omega) hq
theorem bundles_i {st : T} {ws : List D} {m : Int} {k kx} (hs : Sto st) (hw1 : ws.length ≤ 1000) (hm0 : 0 ≤ m) (hm1 : m ≤ 1000) (hw : AllI ws)
    (h : ∀ st' ps, Sto st' → 0 < ps.length → ps.length ≤ 1100 → AllI ps → k (.ls (fzs ps)) [some st', none, none]) : CallG (ct0 c__law_bundles) [st, .fz (.lst ws), .fz (.int m)] k kx := ⟨hs, hw1, hm0, hm1, hw, h⟩
def c__law_path : Ct0 := fun ts Q => match ts with
  | [st, .fz (.lst bs)] => Sto st ∧ 0 < bs.length ∧ bs.length ≤ 2000 ∧ AllI bs ∧ ∀ st' ps, Sto st' → ps.length + 1 = 2 * bs.length → AllI ps → Q (.ls (fzs ps)) [some st', none]
  | _ => False
/-- _law_path: 0 store, 1 bundles, 2 path, 3 b -/
def t__law_path : TSD := (sSeq (sAsg (dLst (daCons (dFz (bOpV fIx 1 (dC (.int 0)))) daNil)) (gN 2))
  (sSeq (sFor (iSeq (dFz (dSlV 1 (dPart (dC (.int 1))) dNoPart))) (gN 3) (sAsg (dOp fAdd (dVar 2) (dFz (dLst (daCons (dFz (dCall (ct0 c__law_letter) (daIo 0 daNil) [])) (daCons (dVar 3) daNil))))) (gN 2)))
  (sRet (dMv 2))))
theorem body__law_path : ∀ ts QD, c__law_path ts QD → t__law_path (endsOf [true, false] QD fun _ _ => False) (startE 4 ts) := by
  intro ts QD h
  match ts, h with
  | [st, .fz (.lst bs)], ⟨hs, h0, h1, hb, k⟩ =>
    unfold t__law_path
    walk_at "nrm"
    refine exA' hb h0 fun x hx hm => ?_
    walk_at "nrm"
    rw [cut_from bs (by decide)]
    refine ⟨size_le (m := 10) (by decide) (by decide), fun i ρ => ∃ st ps o, ρ = [some st, some (.fz (.lst bs)), some (.ls (fzs ps)), o] ∧ Sto st ∧ ps.length = 2 * i + 1 ∧ AllI ps, ?_, ?_, ?_⟩
    · exact ⟨st, [.int x], none, rfl, hs, rfl, allI_nil.cons⟩
    · rintro i d ρ hi ⟨st, ps, o, rfl, hs, hl, hp⟩
      have hil : i < (bs.drop (1 : Int).toNat).length := by
        rcases Nat.lt_or_ge i (bs.drop (1 : Int).toNat).length with h | h
        · exact h
        · rw [List.getElem?_eq_none h] at hi; cases hi
      have hil : i < bs.length := by rw [List.length_drop] at hil; omega
      obtain ⟨y, rfl⟩ := (hb.drop _).mem (List.mem_of_getElem? hi)
      walk_at "nrm"
      refine letter_i hs fun st x hs => ?_
      walk_at "nrm"
      exact ⟨size_le (m := 10) (by decide) (by decide), size_le (m := 5000) (by simp; omega) (by decide), st, _, _, rfl, hs, by simp; omega, hp.app (allI_nil.cons.cons)⟩
    · rintro ρ ⟨st, ps, o, rfl, hs, hl, hp⟩
      walk_at "nrm"
      rw [List.length_drop] at hl
      exact k _ _ hs (by simp at hl; omega) hp
theorem path_i {st : T} {bs : List D} {k kx} (hs : Sto st) (h0 : 0 < bs.length) (h1 : bs.length ≤ 2000) (hb : AllI bs)
    (h : ∀ st' ps, Sto st' → ps.length + 1 = 2 * bs.length → AllI ps → k (.ls (fzs ps)) [some st', none]) : CallG (ct0 c__law_path) [st, .fz (.lst bs)] k kx := ⟨hs, h0, h1, hb, h⟩
theorem filterMap_range_none {α : Type} (f : Nat → Option α) (k : Nat) : ∀ n, k ≤ n → (∀ m, k ≤ m → f m = none) → (List.range n).filterMap f = (List.range k).filterMap f
  | n, hn, h => by
    obtain ⟨j, rfl⟩ : ∃ j, n = k + j := ⟨n - k, by omega⟩
    clear hn
    induction j with
    | zero => rfl
    | succ j ih =>
      rw [← Nat.add_assoc, List.range_succ, List.filterMap_append, ih]
      simp [h (k + j) (by omega)]
theorem pick_half (ps : List Int) (h : ps.length % 2 = 1) : pick ps 0 2 = (List.range ((ps.length : Int) / 2 + 1).toNat).filterMap fun m => ps[0 + m * 2]? := by
  unfold pick
  refine filterMap_range_none _ _ _ (by omega) fun m hm => ?_
  rw [List.getElem?_eq_none]; omega
theorem reads_i {w p : D} {ws ps : List Int} {k kx} (hw : Sq w ws) (hp : Sq p ps) (h : k (.fz (.bl ((pick ps 0 2).isSublist ws))) [none, none]) : CallG (ct0 c_reads) [.fz w, .fz p] k kx := ⟨ws, ps, hw, hp, h⟩
theorem read_i {ws bs : List Int} {k kx} (hl : ws.length ≤ 1000000) (h : k (.fz (.bl (bs.isSublist ws))) [none, none]) : CallG (ct0 c__law_read) [.fz (.lst (intL ws)), .fz (.lst (intL bs))] k kx := ⟨ws, bs, rfl, rfl, hl, h⟩
def c__law_tells : Ct0 := fun ts Q => match ts with
  | [.fz (.lst ws), .fz (.lst ps), .fz (.int form)] => AllI ws ∧ AllI ps ∧ ws.length ≤ 10000 ∧ ps.length ≤ 10000 ∧ ps.length % 2 = 1 ∧ 0 ≤ form ∧ form < 4 ∧ Q (.fz (.bl true)) [none, none, none]
  | _ => False
/-- _law_tells: 0 word, 1 path, 2 form, 3 bundles, 4 k, 5 given -/
def t__law_tells : TSD := (sSeq (sAsg (dLc (iR1 (daCons (dFz (dOp fAdd (dFz (dOp fDiv (dFz (bC1 fLen (daIo 1 daNil))) (dC (.int 2)))) (dC (.int 1)))) daNil)) (gN 4) dYes (bOpV fIx 1 (dFz (dOp fMul (dC (.int 2)) (dVar 4)))) [4]) (gN 3))
  (sSeq (sAsg (dLst (daCons (dFz (bC1 fList (daIo 0 daNil))) (daCons (dFz (bC1 fList (daIo 1 daNil))) daNil))) (gN 5))
  (sJn (sIf (dTB (dOp (fEq false) (dFz (dOp fMod (dFz (bC1 fInt (daIo 2 daNil))) (dC (.int 2)))) (dC (.int 1)))) (sAsg (bC1 fTuple (daIo 0 daNil)) (gSubL 5 (dC (.int 0)))) sNext)
  (sJn (sIf (dTB (dOp (fEq false) (dFz (dOp fDiv (dVar 2) (dC (.int 2)))) (dC (.int 1)))) (sAsg (bC1 fTuple (daIo 1 daNil)) (gSubL 5 (dC (.int 1)))) sNext)
  (sSeq (sIf (dNot (dTru (dCall (ct0 c__law_same) (daCons (dFz (dCall (ct0 c_reads) (daCons (dFz (bOpV fIx 5 (dC (.int 0)))) (daCons (dFz (bOpV fIx 5 (dC (.int 1)))) daNil)) [])) (daCons (dFz (dCall (ct0 c__law_read) (daCons (dVar 0) (daCons (dVar 3) daNil)) [])) daNil)) []))) (sRet (dUp (dC (.bl false)))) sNext)
  (sRet (dAndV (dOp (fEq false) (dFz (bC1 fList (daCons (dFz (bOpV fIx 5 (dC (.int 0)))) daNil))) (dFz (bC1 fList (daIo 0 daNil)))) (dOp (fEq false) (dFz (bC1 fList (daCons (dFz (bOpV fIx 5 (dC (.int 1)))) daNil))) (dFz (bC1 fList (daIo 1 daNil)))))))))))
theorem body__law_tells : ∀ ts QD, c__law_tells ts QD → t__law_tells (endsOf [false, false, false] QD fun _ _ => False) (startE 6 ts) := by
  intro ts QD h
  match ts, h with
  | [.fz (.lst ws), .fz (.lst ps), .fz (.int form)], ⟨hw, hp, hwl, hpl, hod, hf0, hf1, k⟩ =>
    obtain ⟨ws, rfl⟩ := hw.ints
    obtain ⟨ps, rfl⟩ := hp.ints
    rw [ints_len] at hwl hpl hod
    unfold t__law_tells
    walk_at "nrm"
    refine ⟨div_n (by decide) (by decide), by omega, by omega, fun i acc ρ => ρ = [some (.fz (.lst (intL ws))), some (.fz (.lst (intL ps))), some (.fz (.int form)), none, none, none] ∧ acc = fzs (intL ((List.range i).filterMap fun m => ps[0 + m * 2]?)), ?_, ?_, ?_⟩
    · exact ⟨rfl, rfl⟩
    · rintro i d acc ρ hi ⟨rfl, rfl⟩
      obtain ⟨hi, rfl⟩ := rngD_at hi
      walk_at "nrm"
      refine ⟨mul_l (by decide), exI (by omega) (by omega) fun n hn => ?_⟩
      walk_at "nrm"
      have e1 : (2 * (0 + ((i : Nat) : Int))).toNat = 0 + i * 2 := by omega
      rw [e1] at hn
      refine ⟨size_lt (m := 10000) ?_ (by decide), ?_⟩
      · refine Nat.le_trans (List.length_filterMap_le _ _) ?_
        simp; omega
      · rw [List.range_succ, List.filterMap_append, fzs_snoc, ← ints_app]
        rw [Nat.zero_add] at hn
        simp [hn, intL]
    · rintro acc ρ ⟨rfl, rfl⟩
      rw [rngD_len, ← pick_half ps hod]
      walk_at "nrm"
      refine ⟨size_le (m := 10) (by decide) (by decide), jnG (fun ρ => ∃ w, ρ = [some (.fz (.lst (intL ws))), some (.fz (.lst (intL ps))), some (.fz (.int form)), some (.ls (fzs (intL (pick ps 0 2)))), none, some (.ls (fzs [w, .lst (intL ps)]))] ∧ Sq w ws) ?_ ?_⟩
      · walk_at "nrm"
        refine ⟨by decide, ifD (fun _ => ?_) (fun _ => ?_)⟩
        · walk_at "nrm"
          exact ⟨_, rfl, .inr rfl⟩
        · walk_at "nrm"
          exact ⟨_, rfl, .inl rfl⟩
      · rintro ρ ⟨w, rfl, hsw⟩
        walk_at "nrm"
        refine jnG (fun ρ => ∃ p, ρ = [some (.fz (.lst (intL ws))), some (.fz (.lst (intL ps))), some (.fz (.int form)), some (.ls (fzs (intL (pick ps 0 2)))), none, some (.ls (fzs [w, p]))] ∧ Sq p ps) ?_ ?_
        · walk_at "nrm"
          refine ⟨div_n (by decide) (by decide), ifD (fun _ => ?_) (fun _ => ?_)⟩
          · walk_at "nrm"
            exact ⟨_, rfl, .inr rfl⟩
          · walk_at "nrm"
            exact ⟨_, rfl, .inl rfl⟩
        · rintro ρ ⟨p, rfl, hsp⟩
          walk_at "nrm"
          refine reads_i hsw hsp ?_
          walk_at "nrm"
          refine read_i (by omega) ?_
          walk_at "nrm"
          refine same_i ?_
          rw [decide_eq_true rfl]
          walk_at "nrm"
          rcases hsw with rfl | rfl <;> rcases hsp with rfl | rfl
          all_goals
            walk_at "nrm"
            exact k
theorem tells_i {ws ps : List D} {form : Int} {k kx} (hw : AllI ws) (hp : AllI ps) (hwl : ws.length ≤ 10000) (hpl : ps.length ≤ 10000) (ho : ps.length % 2 = 1) (h0 : 0 ≤ form) (h1 : form < 4) (h : k (.fz (.bl true)) [none, none, none]) :
    CallG (ct0 c__law_tells) [.fz (.lst ws), .fz (.lst ps), .fz (.int form)] k kx := ⟨hw, hp, hwl, hpl, ho, h0, h1, h⟩
def c__law_store : Ct0 := fun ts Q => match ts with
  | [.fz (.sq ds)] => ∃ ns, ds = intL ns ∧ ns.length ≤ 1000 ∧ ∀ st, Sto st → Q st [none]
  | _ => False
/-- _law_store: 0 script, 1 numbers, 2 seed, 3 cell, 4 number -/
def t__law_store : TSD := (sSeq (sAsg (dLst daNil) (gN 1))
  (sSeq (sAsg (dUp (dC (.int 17))) (gN 2))
  (sSeq (sFor (iSeq (dFz (dSlV 0 dNoPart (dPart (dC (.int 63)))))) (gN 3) (sSeq (sAsg (dOp fMod (dFz (bC1 fInt (daIo 3 daNil))) (dFz (dOp fPow (dC (.int 10)) (dC (.int 18))))) (gN 4))
  (sSeq (sIf (dTB (dOp fGe (dVar 3) (dFz (dOp fPow (dC (.int 10)) (dC (.int 18)))))) (sAsg (dOp fMod (dFz (bC1 fInt (daIo 3 daNil))) (dFz (dOp fPow (dFz (dOp fPow (dC (.int 10)) (dC (.int 60)))) (dC (.int 14))))) (gN 4)) sNext)
  (sSeq (sDrop (dUp (bMut fAppend 1 (daCons (dVar 4) daNil))))
  (sAsg (dOp fMod (dFz (bC1 fInt (daCons (dFz (dOp fAdd (dFz (dOp fAdd (dFz (dOp fMul (dVar 2) (dC (.int 31337)))) (dFz (dOp fMod (dFz (bC1 fInt (daIo 4 daNil))) (dC (.int 1000003)))))) (dC (.int 1)))) daNil))) (dC (.int 1000000007))) (gN 2))))))
  (sRet (dLst (daCons (dVar 1) (daCons (dC (.int 0)) (daCons (dC (.int 0)) (daCons (dC (.int 0)) (daCons (dC (.int 0)) (daCons (dVar 2) daNil)))))))))))
theorem body__law_store : ∀ ts QD, c__law_store ts QD → t__law_store (endsOf [false] QD fun _ _ => False) (startE 5 ts) := by
  intro ts QD h
  match ts, h with
  | [.fz (.sq ds)], ⟨ns, e1, hl, k⟩ =>
    subst e1
    unfold t__law_store
    walk_at "nrm"
    refine ⟨Nat.zero_le _, fun i ρ => ∃ (ms : List Int) (s : Int) (o3 o4 : Option T), ρ = [some (.fz (.sq (intL ns))), some (.ls (fzs (intL ms))), some (.fz (.int s)), o3, o4] ∧ ms.length = i, ?_, ?_, ?_⟩
    · exact ⟨[], 17, none, none, rfl, rfl⟩
    · rintro i d ρ hi ⟨ms, s, o3, o4, rfl, hm⟩
      obtain ⟨x, hx, rfl⟩ := ints_some hi
      have hc := (List.getElem?_eq_some_iff.mp hx).1
      have hc2 := cut_len ns none (some 63)
      have sn : ∀ y, fzs (intL ms ++ [D.int y]) = fzs (intL (ms ++ [y])) := fun y => by rw [← ints_app]; rfl
      walk_at "nrm"
      refine ⟨pw18, by decide, pw18, ifD (fun _ => ?_) (fun _ => ?_)⟩
      · walk_at "nrm"
        exact ⟨pow_n (by decide) (by decide +kernel), pow_n (by decide) (by decide +kernel), by decide, size_lt (m := 1000) (by omega) (by decide), mul_r (by decide), by decide, by decide, ms ++ [_], _, _, _, by rw [sn], by simp [hm]⟩
      · walk_at "nrm"
        exact ⟨size_lt (m := 1000) (by omega) (by decide), mul_r (by decide), by decide, by decide, ms ++ [_], _, _, _, by rw [sn], by simp [hm]⟩
    · rintro ρ ⟨ms, s, o3, o4, rfl, hm⟩
      walk_at "nrm"
      exact ⟨size_le (m := 10) (by decide) (by decide), k _ ⟨ms, 0, 0, 0, 0, s, rfl, by omega, by omega⟩⟩
theorem store_i {ns : List Int} {k kx} (hl : ns.length ≤ 1000) (h : ∀ st, Sto st → k st [none]) : CallG (ct0 c__law_store) [.fz (.sq (intL ns))] k kx := ⟨ns, rfl, hl, h⟩
def c_law : Ct0 := fun ts Q => match ts with
  | [.fz (.sq ds)] => ∃ ns, ds = intL ns ∧ ns.length ≤ 1000 ∧ Q (.fz (.bl true)) [none]
  | _ => False
/-- law: 0 script, 1 store, 2 great, 3 k, 4 word, 5 j, 6 most, 7 path, 8 at, 9 bundles, 10 more -/
def t_law : TSD := (sSeq (sAsg (dCall (ct0 c__law_store) (daCons (dVar 0) daNil) []) (gN 1))
  (sSeq (sAsg (dOp (fEq false) (dFz (dCall (ct0 c__law_take) (daIo 1 (daCons (dC (.int 8)) daNil)) [])) (dC (.int 1))) (gN 2))
  (sSeq (sFor (iR1 (daCons (dC (.int 4)) daNil)) (gN 3) (sSeq (sAsg (dLc (iR1 (daCons (dFz (dCall (ct0 c__law_take) (daIo 1 (daCons (dC (.int 9)) daNil)) [])) daNil)) (gN 5) dYes (dCall (ct0 c__law_letter) (daIo 1 daNil) []) [5]) (gN 4))
  (sSeq (sAsg (dUp (dC (.int 5))) (gN 6))
  (sJn (sIf (dAnd (dTruV 2) (dTB (dOp (fEq false) (dVar 3) (dC (.int 2))))) (sSeq (sAsg (dLc (iR1 (daCons (dFz (dCall (ct0 c__law_pick) (daIo 1 (daCons (dFz (dLst (daCons (dC (.int 120)) (daCons (dC (.int 121)) (daCons (dC (.int 200)) daNil))))) daNil)) [])) daNil)) (gN 5) dYes (dCall (ct0 c__law_letter) (daIo 1 daNil) []) [5]) (gN 4))
  (sAsg (dUp (dC (.int 60))) (gN 6))) sNext)
  (sSeq (sAsg (dCall (ct0 c__law_path) (daIo 1 (daCons (dFz (dCall (ct0 c__law_bundles) (daIo 1 (daCons (dVar 4) (daCons (dVar 6) daNil))) [])) daNil)) []) (gN 7))
  (sSeq (sIf (dNot (dTru (dCall (ct0 c__law_tells) (daCons (dVar 4) (daCons (dVar 7) (daCons (dFz (dCall (ct0 c__law_take) (daIo 1 (daCons (dC (.int 4)) daNil)) [])) daNil))) []))) (sRet (dUp (dC (.bl false)))) sNext)
  (sSeq (sAsg (dCall (ct0 c__law_take) (daIo 1 (daCons (dFz (dOp fAdd (dFz (bC1 fLen (daIo 4 daNil))) (dC (.int 1)))) daNil)) []) (gN 8))
  (sSeq (sIf (dNot (dTru (dCall (ct0 c__law_tells) (daCons (dFz (dOp fAdd (dFz (dSlV 4 dNoPart (dPart (dVar 8)))) (dFz (dSlV 4 (dPart (dFz (dOp fAdd (dVar 8) (dC (.int 1))))) dNoPart)))) (daCons (dVar 7) (daCons (dFz (dCall (ct0 c__law_take) (daIo 1 (daCons (dC (.int 4)) daNil)) [])) daNil))) []))) (sRet (dUp (dC (.bl false)))) sNext)
  (sSeq (sAsg (dLc (iR1 (daCons (dFz (dOp fAdd (dFz (dOp fDiv (dFz (bC1 fLen (daIo 7 daNil))) (dC (.int 2)))) (dC (.int 1)))) daNil)) (gN 5) dYes (bOpV fIx 7 (dFz (dOp fMul (dC (.int 2)) (dVar 5)))) [5]) (gN 9))
  (sSeq (sAsg (dCall (ct0 c__law_pick) (daIo 1 (daCons (dVar 9) daNil)) []) (gN 10))
  (sSeq (sIf (dNot (dTru (dCall (ct0 c__law_tells) (daCons (dFz (dOp fAdd (dFz (dOp fAdd (dFz (dSlV 4 dNoPart (dPart (dVar 8)))) (dFz (dLst (daCons (dVar 10) daNil))))) (dFz (dSlV 4 (dPart (dVar 8)) dNoPart)))) (daCons (dVar 7) (daCons (dFz (dCall (ct0 c__law_take) (daIo 1 (daCons (dC (.int 4)) daNil)) [])) daNil))) []))) (sRet (dUp (dC (.bl false)))) sNext)
  (sSeq (sIf (dOr (dNot (dTru (dCall (ct0 c__law_tells) (daCons (dVar 4) (daCons (dVar 7) (daCons (dC (.int 3)) daNil))) []))) (dNot (dTru (dCall (ct0 c__law_tells) (daCons (dVar 9) (daCons (dFz (dCall (ct0 c__law_path) (daIo 1 (daCons (dVar 9) daNil)) [])) (daCons (dFz (dCall (ct0 c__law_take) (daIo 1 (daCons (dC (.int 4)) daNil)) [])) daNil))) [])))) (sRet (dUp (dC (.bl false)))) sNext)
  (sSeq (sIf (dNot (dTru (dCall (ct0 c__law_tells) (daCons (dVar 9) (daCons (dFz (dCall (ct0 c__law_path) (daIo 1 (daCons (dFz (dOp fAdd (dVar 9) (dFz (dLst (daCons (dVar 10) daNil))))) daNil)) [])) (daCons (dFz (dCall (ct0 c__law_take) (daIo 1 (daCons (dC (.int 4)) daNil)) [])) daNil))) []))) (sRet (dUp (dC (.bl false)))) sNext)
  (sIf (dNot (dTru (dCall (ct0 c__law_tells) (daCons (dVar 9) (daCons (dFz (dCall (ct0 c__law_path) (daIo 1 (daCons (dFz (dOp fAdd (dFz (dLst (daCons (dVar 10) daNil))) (dVar 9))) daNil)) [])) (daCons (dC (.int 3)) daNil))) []))) (sRet (dUp (dC (.bl false)))) sNext))))))))))))))
  (sRet (dAndV (dCall (ct0 c__law_tells) (daCons (dFz (dLst daNil)) (daCons (dFz (dLst (daCons (dC (.int 0)) daNil))) (daCons (dC (.int 3)) daNil))) []) (dAndV (dCall (ct0 c__law_tells) (daCons (dFz (dLst (daCons (dVar 10) daNil))) (daCons (dFz (dLst (daCons (dVar 10) daNil))) (daCons (dC (.int 0)) daNil))) []) (dCall (ct0 c__law_tells) (daCons (dFz (dLst (daCons (dVar 10) daNil))) (daCons (dFz (dLst (daCons (dVar 10) (daCons (dC (.int 5)) (daCons (dVar 10) daNil))))) (daCons (dC (.int 0)) daNil))) [])))))))
def LI1 (ns : List Int) (gr : Bool) (i : Nat) (ρ : Dl.Env) : Prop := ∃ st o3 o4 o5 o6 o7 o8 o9 o10, ρ = [some (.fz (.sq (intL ns))), some st, some (.fz (.bl gr)), o3, o4, o5, o6, o7, o8, o9, o10] ∧ Sto st ∧ (1 ≤ i → ∃ n, o10 = some (.fz (.int n)))
def LI2 (ns : List Int) (gr : Bool) (kk : Int) (o7 o8 o9 o10 : Option T) (ρ : Dl.Env) : Prop := ∃ st ws most, ρ = [some (.fz (.sq (intL ns))), some st, some (.fz (.bl gr)), some (.fz (.int kk)), some (.ls (fzs ws)), none, some (.fz (.int most)), o7, o8, o9, o10] ∧ Sto st ∧ AllI ws ∧ ws.length ≤ 200 ∧ 0 ≤ most ∧ most ≤ 100
theorem body_law : ∀ ts QD, c_law ts QD → t_law (endsOf [false] QD fun _ _ => False) (startE 11 ts) := by
  intro ts QD h
  match ts, h with
  | [.fz (.sq ds)], ⟨ns, e1, hl, k⟩ =>
    subst e1
    unfold t_law
    walk_at "nrm"
    refine store_i hl fun st hs => ?_
    walk_at "nrm"
    refine take_i hs (by decide) fun st g hs _ _ => ?_
    walk_at "nrm"
    generalize decide (g = 1) = gr
    refine ⟨by decide, by decide, LI1 ns gr, ?_, ?_, ?_⟩
    · exact ⟨st, none, none, none, none, none, none, none, none, rfl, hs, fun h => absurd h (by decide)⟩
    · rintro i d ρ hi ⟨st, o3, o4, o5, o6, o7, o8, o9, o10, rfl, hs, -⟩
      obtain ⟨hi, rfl⟩ := rngD_at hi
      generalize (0 : Int) + ((i : Nat) : Int) = kk
      walk_at "nrm"
      refine take_i hs (by decide) fun st n hs n0 n1 => ?_
      walk_at "nrm"
      refine ⟨by omega, by omega, fun i acc ρ => ∃ st qs, ρ = [some (.fz (.sq (intL ns))), some st, some (.fz (.bl gr)), some (.fz (.int kk)), o4, none, o6, o7, o8, o9, o10] ∧ acc = fzs qs ∧ AllI qs ∧ qs.length = i ∧ Sto st, ?_, ?_, ?_⟩
      · exact ⟨st, [], rfl, rfl, allI_nil, rfl, hs⟩
      · rintro i d acc ρ hi ⟨st, qs, rfl, rfl, hq, hl, hs⟩
        obtain ⟨hi, rfl⟩ := rngD_at hi
        walk_at "nrm"
        refine letter_i hs fun st x hs => ?_
        walk_at "nrm"
        exact ⟨size_lt (m := 1000) (by omega) (by decide), st, qs ++ [.int x], rfl, fzs_snoc _ _, hq.snoc, by simp [hl], hs⟩
      rintro acc ρ ⟨st, ws, rfl, rfl, hw, hwl, hs⟩
      rw [rngD_len] at hwl
      walk_at "nrm"
      refine jnG (LI2 ns gr kk o7 o8 o9 o10) ?_ ?_
      · walk_at "nrm"
        have keep : LI2 ns gr kk o7 o8 o9 o10 [some (T.fz (D.sq (intL ns))), some st, some (T.fz (D.bl gr)), some (T.fz (D.int kk)), some (T.ls (fzs ws)), none, some (T.fz (D.int 5)), o7, o8, o9, o10] := ⟨st, ws, 5, rfl, hs, hw, by omega, by decide, by decide⟩
        refine ifG (fun _ => ?_) (fun _ => ?_)
        · walk_at "nrm"
          refine ifD (fun _ => ?_) (fun _ => ?_)
          · walk_at "nrm"
            refine ⟨size_le (m := 10) (by decide) (by decide), ?_⟩
            refine pick_i hs (by decide) (by decide) fun st d hs hd => ?_
            obtain ⟨n, hn, rfl⟩ := mem_ints (ns := [120, 121, 200]) hd
            have hn : n = 120 ∨ n = 121 ∨ n = 200 := by simpa using hn
            walk_at "nrm"
            refine ⟨by omega, by omega, fun i acc ρ => ∃ st qs, ρ = [some (.fz (.sq (intL ns))), some st, some (.fz (.bl gr)), some (.fz (.int kk)), some (T.ls (fzs ws)), none, some (T.fz (D.int 5)), o7, o8, o9, o10] ∧ acc = fzs qs ∧ AllI qs ∧ qs.length = i ∧ Sto st, ?_, ?_, ?_⟩
            · exact ⟨st, [], rfl, rfl, allI_nil, rfl, hs⟩
            · rintro i d acc ρ hi ⟨st, qs, rfl, rfl, hq, hl, hs⟩
              obtain ⟨hi, rfl⟩ := rngD_at hi
              walk_at "nrm"
              refine letter_i hs fun st x hs => ?_
              walk_at "nrm"
              exact ⟨size_lt (m := 1000) (by omega) (by decide), st, qs ++ [.int x], rfl, fzs_snoc _ _, hq.snoc, by simp [hl], hs⟩
            rintro acc ρ ⟨st, ws, rfl, rfl, hw, hwl, hs⟩
            rw [rngD_len] at hwl
            walk_at "nrm"
            exact ⟨st, ws, 60, rfl, hs, hw, by omega, by decide, by decide⟩
          · walk_at "nrm"
            exact keep
        · walk_at "nrm"
          exact keep
      · rintro ρ ⟨st, ws, most, rfl, hs, hw, hwl, m0, m1⟩
        walk_at "nrm"
        refine bundles_i hs (by omega) m0 (by omega) hw fun st bs hs b0 b1 hb => ?_
        walk_at "nrm"
        refine path_i hs b0 (by omega) hb fun st ps hs hpl hp => ?_
        walk_at "nrm"
        refine take_i hs (by decide) fun st n hs n0 n1 => ?_
        walk_at "nrm"
        refine tells_i hw hp (by omega) (by omega) (by omega) n0 (by omega) ?_
        walk_at "nrm"
        refine take_i hs (by omega) fun st at' hs a0 a1 => ?_
        walk_at "nrm"
        rw [cut_some ws a0, cut_from ws (by omega)]
        refine ⟨size_le (m := 1000) (by simp; omega) (by decide), take_i hs (by decide) fun st n hs n0 n1 => ?_⟩
        walk_at "nrm"
        refine tells_i ((hw.take _).app (hw.drop _)) hp (by simp; omega) (by omega) (by omega) n0 (by omega) ?_
        walk_at "nrm"
        refine ⟨div_n (by decide) (by decide), by omega, by omega, fun i acc ρ => ∃ qs, ρ = [some (.fz (.sq (intL ns))), some st, some (.fz (.bl gr)), some (.fz (.int kk)), some (.fz (.lst ws)), none, some (.fz (.int most)), some (.fz (.lst ps)), some (.fz (.int at')), o9, o10] ∧ acc = fzs qs ∧ AllI qs ∧ qs.length = i, ?_, ?_, ?_⟩
        · exact ⟨[], rfl, rfl, allI_nil, rfl⟩
        · rintro i d acc ρ hi ⟨qs, rfl, rfl, hq, hl⟩
          obtain ⟨hi, rfl⟩ := rngD_at hi
          walk_at "nrm"
          refine ⟨mul_l (by decide), exA hp (by omega) (by omega) fun n hn _ => ?_⟩
          walk_at "nrm"
          exact ⟨size_lt (m := 5000) (by omega) (by decide), qs ++ [.int n], fzs_snoc _ _, hq.snoc, by simp [hl]⟩
        rintro acc ρ ⟨bs, rfl, rfl, hb, hbl⟩
        rw [rngD_len] at hbl
        walk_at "nrm"
        refine pick_i hs (by omega) (by omega) fun st d hs hd => ?_
        obtain ⟨mo, rfl⟩ := hb.mem hd
        walk_at "nrm"
        rw [cut_some ws a0, cut_from ws a0]
        refine ⟨size_le (m := 10) (by decide) (by decide), size_le (m := 1000) (by simp; omega) (by decide), size_le (m := 1000) (by simp; omega) (by decide), take_i hs (by decide) fun st n hs n0 n1 => ?_⟩
        walk_at "nrm"
        refine tells_i (((hw.take _).app allI_nil.cons).app (hw.drop _)) hp (by simp; omega) (by omega) (by omega) n0 (by omega) ?_
        walk_at "nrm"
        refine tells_i hw hp (by omega) (by omega) (by omega) (by decide) (by decide) ?_
        walk_at "nrm"
        refine path_i hs (by omega) (by omega) hb fun st qs hs hql hq => ?_
        walk_at "nrm"
        refine take_i hs (by decide) fun st n hs n0 n1 => ?_
        walk_at "nrm"
        refine tells_i hb hq (by omega) (by omega) (by omega) n0 (by omega) ?_
        walk_at "nrm"
        refine ⟨size_le (m := 10) (by decide) (by decide), size_le (m := 2000) (by first | omega | (simp; omega)) (by decide), ?_⟩
        refine path_i hs (by simp) (by simp; omega) (hb.app allI_nil.cons) fun st qs hs hql hq => ?_
        rw [List.length_append, List.length_singleton] at hql
        walk_at "nrm"
        refine take_i hs (by decide) fun st n hs n0 n1 => ?_
        walk_at "nrm"
        refine tells_i hb hq (by omega) (by omega) (by omega) n0 (by omega) ?_
        walk_at "nrm"
        refine ⟨size_le (m := 10) (by decide) (by decide), size_le (m := 2000) (by first | omega | (simp; omega)) (by decide), ?_⟩
        refine path_i hs (by simp) (by simp; omega) (allI_nil.cons.app hb) fun st qs hs hql hq => ?_
        rw [List.length_append, List.length_singleton] at hql
        walk_at "nrm"
        refine tells_i hb hq (by omega) (by omega) (by omega) (by decide) (by decide) ?_
        walk_at "nrm"
        exact ⟨_, _, _, _, _, _, _, _, _, rfl, hs, fun _ => ⟨mo, rfl⟩⟩
    · rintro ρ ⟨st, o3, o4, o5, o6, o7, o8, o9, o10, rfl, hs, h⟩
      obtain ⟨n, rfl⟩ := h (by decide)
      walk_at "nrm"
      refine ⟨Nat.zero_le _, size_le (m := 10) (by decide) (by decide), ?_⟩
      refine tells_i allI_nil allI_nil.cons (by decide) (by decide) (by decide) (by decide) (by decide) ?_
      walk_at "nrm"
      refine ⟨size_le (m := 10) (by decide) (by decide), size_le (m := 10) (by decide) (by decide), ?_⟩
      refine tells_i allI_nil.cons allI_nil.cons (by simp) (by simp) (by simp) (by decide) (by decide) ?_
      walk_at "nrm"
      refine ⟨size_le (m := 10) (by decide) (by decide), size_le (m := 10) (by decide) (by decide), ?_⟩
      refine tells_i allI_nil.cons allI_nil.cons.cons.cons (by simp) (by simp) (by simp) (by decide) (by decide) ?_
      walk_at "nrm"
      exact k
theorem lawc : LawC 63 c_law := fun ns QD h k => ⟨ns, rfl, by omega, k _⟩
end Law

namespace Law
open PySem L2 Dl
def top (i : Nat) : Stmt := PySem.Challenge.pw_struckalone_k11_paths_read_in_words.main.body.getD i (.Pass ⟨0, 0, 0, 0⟩)
abbrev s_reads : Stmt := top 1
abbrev s__law_mix : Stmt := top 3
abbrev s__law_store : Stmt := top 4
abbrev s__law_load : Stmt := top 5
abbrev s__law_take : Stmt := top 6
abbrev s__law_pick : Stmt := top 7
abbrev s__law_some : Stmt := top 8
abbrev s__law_same : Stmt := top 10
abbrev s__law_letter : Stmt := top 11
abbrev s__law_read : Stmt := top 12
abbrev s__law_part_of : Stmt := top 13
abbrev s__law_bundles : Stmt := top 14
abbrev s__law_path : Stmt := top 15
abbrev s__law_tells : Stmt := top 16
abbrev s_law : Stmt := top 17
structure Blt (mg : Str → Option Value) : Prop where
  n_bool : mg "bool" = none
  n_int : mg "int" = none
  n_isinstance : mg "isinstance" = none
  n_len : mg "len" = none
  n_list : mg "list" = none
  n_max : mg "max" = none
  n_min : mg "min" = none
  n_range : mg "range" = none
  n_reversed : mg "reversed" = none
  n_sorted : mg "sorted" = none
  n_tuple : mg "tuple" = none
section
variable {P : Program} {w : World} {K : PySem.W.Frag} {mg : Str → Option Value} {base : Heap}
theorem len_reads : ∀ ts QD, c_reads ts QD → ts.length = 2 := fun ts QD h => by
  unfold c_reads at h
  split at h <;> first | rfl | exact h.elim
abbrev N_reads : List Str := ["word", "path", "wanted", "found", "letter"]
theorem sc_reads : FnScope N_reads ["word", "path"] (defScope s_reads) := ⟨rfl, rfl, rfl, by decide +kernel, rfl, by decide +kernel, by decide +kernel⟩
theorem ok_reads {f : Addr} {fd : FuncData} (B : Blt mg) (F : Fun K "reads" "reads" s_reads f fd)  : FnOk P w K mg base CX0 1 f fd ["word", "path"] (spOf K (ct0 c_reads)) := by
  exact fn_ok (t := t_reads) [false, false] F sc_reads rfl (by decide) len_reads (fun cdv A outer s H E Pn hp hr => ⟨_, (b_cons (s_set (i := 2) (hp 2 (by decide)) sc_reads.nd rfl (by first | exact Or.inl rfl | exact Or.inr rfl) (x_step (cc := 2) (by decide) (x_var (i := 1)) o_none))
    (b_cons (s_set (i := 3) (hp 3 (by decide)) sc_reads.nd rfl (by first | exact Or.inl rfl | exact Or.inr rfl) (x_up x_int))
    (b_cons (s_for PassesOwn.never rfl (i_seq (x_var (i := 0))) (g_name (i := 4) (hp 4 (by decide)) sc_reads.nd rfl (by first | exact Or.inl rfl | exact Or.inr rfl)) (b_one (s_if (y_pt (w_and (y_lt (x_var (i := 3)) (x_fz (x_len B.n_len (a_io (p_var (i := 2)) a_nil)))) (w_and1 (y_eq hr.units (x_var (i := 4)) (x_fz (x_ixV (p_var (i := 2)) (x_var (i := 3)))))))) (b_one (s_augG (i := 3) ip_add (hp 3 (by decide)) sc_reads.nd rfl (by first | exact Or.inl rfl | exact Or.inr rfl) x_int)) b_nil)))
    (b_one (s_ret (x_eq hr.units (x_var (i := 3)) (x_fz (x_len B.n_len (a_io (p_var (i := 2)) a_nil)))))))))⟩) body_reads
theorem len__law_mix : ∀ ts QD, c__law_mix ts QD → ts.length = 2 := fun ts QD h => by
  unfold c__law_mix at h
  split at h <;> first | rfl | exact h.elim
abbrev N__law_mix : List Str := ["number", "turn", "one", "two"]
theorem sc__law_mix : FnScope N__law_mix ["number", "turn"] (defScope s__law_mix) := ⟨rfl, rfl, rfl, by decide +kernel, rfl, by decide +kernel, by decide +kernel⟩
theorem ok__law_mix {f : Addr} {fd : FuncData} (B : Blt mg) (F : Fun K "_law_mix" "_law_mix" s__law_mix f fd)  : FnOk P w K mg base CX0 1 f fd ["number", "turn"] (spOf K (ct0 c__law_mix)) := by
  exact fn_ok (t := t__law_mix) [false, false] F sc__law_mix rfl (by decide) len__law_mix (fun cdv A outer s H E Pn hp hr => ⟨_, (b_cons (s_set (i := 2) (hp 2 (by decide)) sc__law_mix.nd rfl (by first | exact Or.inl rfl | exact Or.inr rfl) (x_mod (x_fz (x_toInt B.n_int (a_cons (x_fz (x_add (x_fz (x_add (x_fz (x_mul (x_var (i := 0)) x_int)) (x_fz (x_mul (x_var (i := 1)) x_int)))) x_int)) a_nil))) x_int))
    (b_cons (s_set (i := 3) (hp 3 (by decide)) sc__law_mix.nd rfl (by first | exact Or.inl rfl | exact Or.inr rfl) (x_mod (x_fz (x_toInt B.n_int (a_cons (x_fz (x_add (x_fz (x_add (x_fz (x_mul (x_var (i := 2)) (x_var (i := 2)))) (x_fz (x_mul (x_var (i := 1)) x_int)))) x_int)) a_nil))) x_int))
    (b_one (s_ret (x_div (x_fz (x_mod (x_fz (x_toInt B.n_int (a_cons (x_fz (x_add (x_fz (x_mul (x_var (i := 3)) (x_var (i := 3)))) (x_fz (x_mul (x_var (i := 2)) x_int)))) a_nil))) x_int)) x_int)))))⟩) body__law_mix
theorem len__law_store : ∀ ts QD, c__law_store ts QD → ts.length = 1 := fun ts QD h => by
  unfold c__law_store at h
  split at h <;> first | rfl | exact h.elim
abbrev N__law_store : List Str := ["script", "numbers", "seed", "cell", "number"]
theorem sc__law_store : FnScope N__law_store ["script"] (defScope s__law_store) := ⟨rfl, rfl, rfl, by decide +kernel, rfl, by decide +kernel, by decide +kernel⟩
theorem ok__law_store {f : Addr} {fd : FuncData} (B : Blt mg) (F : Fun K "_law_store" "_law_store" s__law_store f fd)  : FnOk P w K mg base CX0 1 f fd ["script"] (spOf K (ct0 c__law_store)) := by
  exact fn_ok (t := t__law_store) [false] F sc__law_store rfl (by decide) len__law_store (fun cdv A outer s H E Pn hp hr => ⟨_, (b_cons (s_set (i := 1) (hp 1 (by decide)) sc__law_store.nd rfl (by first | exact Or.inl rfl | exact Or.inr rfl) (x_lst a_nil))
    (b_cons (s_set (i := 2) (hp 2 (by decide)) sc__law_store.nd rfl (by first | exact Or.inl rfl | exact Or.inr rfl) (x_up x_int))
    (b_cons (s_for PassesOwn.never rfl (i_seq (x_fz (x_slV (p_var (i := 0)) o_none (o_some x_int)))) (g_name (i := 3) (hp 3 (by decide)) sc__law_store.nd rfl (by first | exact Or.inl rfl | exact Or.inr rfl)) (b_cons (s_set (i := 4) (hp 4 (by decide)) sc__law_store.nd rfl (by first | exact Or.inl rfl | exact Or.inr rfl) (x_mod (x_fz (x_toInt B.n_int (a_io (p_var (i := 3)) a_nil))) (x_fz (x_pow x_int x_int))))
    (b_cons (s_if (y_ge (x_var (i := 3)) (x_fz (x_pow x_int x_int))) (b_one (s_set (i := 4) (hp 4 (by decide)) sc__law_store.nd rfl (by first | exact Or.inl rfl | exact Or.inr rfl) (x_mod (x_fz (x_toInt B.n_int (a_io (p_var (i := 3)) a_nil))) (x_fz (x_pow (x_fz (x_pow x_int x_int)) x_int))))) b_nil)
    (b_cons (s_expr (x_up (x_append (p_var (i := 1)) (a_cons (x_var (i := 4)) a_nil))))
    (b_one (s_set (i := 2) (hp 2 (by decide)) sc__law_store.nd rfl (by first | exact Or.inl rfl | exact Or.inr rfl) (x_mod (x_fz (x_toInt B.n_int (a_cons (x_fz (x_add (x_fz (x_add (x_fz (x_mul (x_var (i := 2)) x_int)) (x_fz (x_mod (x_fz (x_toInt B.n_int (a_io (p_var (i := 4)) a_nil))) x_int)))) x_int)) a_nil))) x_int)))))))
    (b_one (s_ret (x_lst (a_cons (x_var (i := 1)) (a_cons x_int (a_cons x_int (a_cons x_int (a_cons x_int (a_cons (x_var (i := 2)) a_nil))))))))))))⟩) body__law_store
theorem len__law_load : ∀ ts QD, c__law_load ts QD → ts.length = 1 := fun ts QD h => by
  unfold c__law_load at h
  split at h <;> first | rfl | exact h.elim
abbrev N__law_load : List Str := ["store", "numbers", "number"]
theorem sc__law_load : FnScope N__law_load ["store"] (defScope s__law_load) := ⟨rfl, rfl, rfl, by decide +kernel, rfl, by decide +kernel, by decide +kernel⟩
theorem ok__law_load {f : Addr} {fd : FuncData} (B : Blt mg) (F : Fun K "_law_load" "_law_load" s__law_load f fd)  : FnOk P w K mg base CX0 1 f fd ["store"] (spOf K (ct0 c__law_load)) := by
  exact fn_ok (t := t__law_load) [true] F sc__law_load rfl (by decide) len__law_load (fun cdv A outer s H E Pn hp hr => ⟨_, (b_cons (s_set (i := 1) (hp 1 (by decide)) sc__law_load.nd rfl (by first | exact Or.inl rfl | exact Or.inr rfl) (x_ixV (p_var (i := 0)) x_int))
    (b_cons (s_set (i := 2) (hp 2 (by decide)) sc__law_load.nd rfl (by first | exact Or.inl rfl | exact Or.inr rfl) (x_ixV (p_var (i := 0)) x_int))
    (b_cons (s_if (y_lt (x_fz (x_ixV (p_var (i := 0)) x_int)) (x_fz (x_len B.n_len (a_io (p_var (i := 1)) a_nil)))) (b_cons (s_set (i := 2) (hp 2 (by decide)) sc__law_load.nd rfl (by first | exact Or.inl rfl | exact Or.inr rfl) (x_ixV (p_var (i := 1)) (x_fz (x_ixV (p_var (i := 0)) x_int))))
    (b_one (s_asg (x_add (x_fz (x_ixV (p_var (i := 0)) x_int)) x_int) (g_sub (p_var (i := 0)) x_int)))) b_nil)
    (b_cons (s_asg (x_up (x_var (i := 2))) (g_sub (p_var (i := 0)) x_int))
    (b_cons (s_asg (x_up x_int) (g_sub (p_var (i := 0)) x_int))
    (b_one (s_if (y_ge (x_var (i := 2)) (x_fz (x_pow x_int x_int))) (b_one (s_asg (x_sub x_int x_int) (g_sub (p_var (i := 0)) x_int))) b_nil)))))))⟩) body__law_load
theorem len__law_take : ∀ ts QD, c__law_take ts QD → ts.length = 2 := fun ts QD h => by
  unfold c__law_take at h
  split at h <;> first | rfl | exact h.elim
abbrev N__law_take : List Str := ["store", "many", "digit"]
theorem sc__law_take : FnScope N__law_take ["store", "many"] (defScope s__law_take) := ⟨rfl, rfl, rfl, by decide +kernel, rfl, by decide +kernel, by decide +kernel⟩
theorem ok__law_take {f : Addr} {fd : FuncData} (B : Blt mg) (F : Fun K "_law_take" "_law_take" s__law_take f fd) (H__law_load : DfX P w K mg base 1 "_law_load" ["store"] c__law_load) (H__law_mix : DfX P w K mg base 1 "_law_mix" ["number", "turn"] c__law_mix) : FnOk P w K mg base CX0 2 f fd ["store", "many"] (spOf K (ct0 c__law_take)) := by
  obtain ⟨f__law_load, fd__law_load, D__law_load⟩ := H__law_load
  obtain ⟨f__law_mix, fd__law_mix, D__law_mix⟩ := H__law_mix
  exact fn_ok (t := t__law_take) [true, false] F sc__law_take rfl (by decide) len__law_take (fun cdv A outer s H E Pn hp hr => ⟨_, (b_cons (s_set (i := 1) (hp 1 (by decide)) sc__law_take.nd rfl (by first | exact Or.inl rfl | exact Or.inr rfl) (x_max2 rfl B.n_max (a_cons x_int (a_cons (x_fz (x_toInt B.n_int (a_io (p_var (i := 1)) a_nil))) a_nil))))
    (b_cons (s_asg (x_add (x_fz (x_ixV (p_var (i := 0)) x_int)) x_int) (g_sub (p_var (i := 0)) x_int))
    (b_join (s_if (y_eq hr.units (x_fz (x_ixV (p_var (i := 0)) x_int)) x_int) (b_one (s_expr (x_fn D__law_load.ok (hr.mono (by decide)) D__law_load.mg D__law_load.kp D__law_load.bi (a_io (p_var (i := 0)) a_nil)))) b_nil)
    (b_cons (s_if (y_gt (x_fz (x_ixV (p_var (i := 0)) x_int)) x_int) (b_cons (s_asg (x_sub (x_fz (x_ixV (p_var (i := 0)) x_int)) x_int) (g_sub (p_var (i := 0)) x_int))
    (b_one (s_ret (x_mod (x_fz (x_toInt B.n_int (a_cons (x_fz (x_fn D__law_mix.ok (hr.mono (by decide)) D__law_mix.mg D__law_mix.kp D__law_mix.bi (a_cons (x_fz (x_add (x_fz (x_ixV (p_var (i := 0)) x_int)) (x_fz (x_mul (x_fz (x_ixV (p_var (i := 0)) x_int)) x_int)))) (a_cons (x_fz (x_ixV (p_var (i := 0)) x_int)) a_nil)))) a_nil))) (x_var (i := 1)))))) b_nil)
    (b_cons (s_set (i := 2) (hp 2 (by decide)) sc__law_take.nd rfl (by first | exact Or.inl rfl | exact Or.inr rfl) (x_mod (x_fz (x_toInt B.n_int (a_cons (x_fz (x_ixV (p_var (i := 0)) x_int)) a_nil))) (x_var (i := 1))))
    (b_cons (s_asg (x_div (x_fz (x_toInt B.n_int (a_cons (x_fz (x_ixV (p_var (i := 0)) x_int)) a_nil))) (x_var (i := 1))) (g_sub (p_var (i := 0)) x_int))
    (b_cons (s_if (y_eq hr.units (x_fz (x_ixV (p_var (i := 0)) x_int)) x_int) (b_one (s_asg (x_up x_int) (g_sub (p_var (i := 0)) x_int))) b_nil)
    (b_one (s_ret (x_mv (p_var (i := 2))))))))))))⟩) body__law_take
theorem len__law_pick : ∀ ts QD, c__law_pick ts QD → ts.length = 2 := fun ts QD h => by
  unfold c__law_pick at h
  split at h <;> first | rfl | exact h.elim
abbrev N__law_pick : List Str := ["store", "things"]
theorem sc__law_pick : FnScope N__law_pick ["store", "things"] (defScope s__law_pick) := ⟨rfl, rfl, rfl, by decide +kernel, rfl, by decide +kernel, by decide +kernel⟩
theorem ok__law_pick {f : Addr} {fd : FuncData} (B : Blt mg) (F : Fun K "_law_pick" "_law_pick" s__law_pick f fd) (H__law_take : DfX P w K mg base 2 "_law_take" ["store", "many"] c__law_take) : FnOk P w K mg base CX0 3 f fd ["store", "things"] (spOf K (ct0 c__law_pick)) := by
  obtain ⟨f__law_take, fd__law_take, D__law_take⟩ := H__law_take
  exact fn_ok (t := t__law_pick) [true, false] F sc__law_pick rfl (by decide) len__law_pick (fun cdv A outer s H E Pn hp hr => ⟨_, (b_one (s_ret (x_ixV (p_var (i := 1)) (x_fz (x_fn D__law_take.ok (hr.mono (by decide)) D__law_take.mg D__law_take.kp D__law_take.bi (a_io (p_var (i := 0)) (a_cons (x_fz (x_len B.n_len (a_io (p_var (i := 1)) a_nil))) a_nil)))))))⟩) body__law_pick
theorem len__law_some : ∀ ts QD, c__law_some ts QD → ts.length = 3 := fun ts QD h => by
  unfold c__law_some at h
  split at h <;> first | rfl | exact h.elim
abbrev N__law_some : List Str := ["store", "things", "many", "left", "chosen", "k"]
theorem sc__law_some : FnScope N__law_some ["store", "things", "many"] (defScope s__law_some) := ⟨rfl, rfl, rfl, by decide +kernel, rfl, by decide +kernel, by decide +kernel⟩
theorem ok__law_some {f : Addr} {fd : FuncData} (B : Blt mg) (F : Fun K "_law_some" "_law_some" s__law_some f fd) (H__law_take : DfX P w K mg base 2 "_law_take" ["store", "many"] c__law_take) : FnOk P w K mg base CX0 3 f fd ["store", "things", "many"] (spOf K (ct0 c__law_some)) := by
  obtain ⟨f__law_take, fd__law_take, D__law_take⟩ := H__law_take
  exact fn_ok (t := t__law_some) [true, false, false] F sc__law_some rfl (by decide) len__law_some (fun cdv A outer s H E Pn hp hr => ⟨_, (b_cons (s_set (i := 3) (hp 3 (by decide)) sc__law_some.nd rfl (by first | exact Or.inl rfl | exact Or.inr rfl) (x_list B.n_list (a_io (p_var (i := 1)) a_nil)))
    (b_cons (s_set (i := 4) (hp 4 (by decide)) sc__law_some.nd rfl (by first | exact Or.inl rfl | exact Or.inr rfl) (x_lst a_nil))
    (b_cons (s_for PassesOwn.never rfl (i_r1 B.n_range (a_cons (x_fz (x_min2 rfl B.n_min (a_cons (x_var (i := 2)) (a_cons (x_fz (x_len B.n_len (a_io (p_var (i := 3)) a_nil))) a_nil)))) a_nil)) (g_name (i := 5) (hp 5 (by decide)) sc__law_some.nd rfl (by first | exact Or.inl rfl | exact Or.inr rfl)) (b_one (s_expr (x_up (x_append (p_var (i := 4)) (a_cons (x_popAt (p_var (i := 3)) (a_cons (x_fz (x_fn D__law_take.ok (hr.mono (by decide)) D__law_take.mg D__law_take.kp D__law_take.bi (a_io (p_var (i := 0)) (a_cons (x_fz (x_len B.n_len (a_io (p_var (i := 3)) a_nil))) a_nil)))) a_nil)) a_nil))))))
    (b_one (s_ret (x_mv (p_var (i := 4))))))))⟩) body__law_some
theorem len__law_same : ∀ ts QD, c__law_same ts QD → ts.length = 2 := fun ts QD h => by
  unfold c__law_same at h
  split at h <;> first | rfl | exact h.elim
abbrev N__law_same : List Str := ["actual", "due", "k"]
theorem sc__law_same : FnScope N__law_same ["actual", "due"] (defScope s__law_same) := ⟨rfl, rfl, rfl, by decide +kernel, rfl, by decide +kernel, by decide +kernel⟩
theorem ok__law_same {f : Addr} {fd : FuncData} (B : Blt mg) (F : Fun K "_law_same" "_law_same" s__law_same f fd)  : FnOk P w K mg base CX0 1 f fd ["actual", "due"] (spOf K (ct0 c__law_same)) := by
  exact fn_ok (t := t__law_same) [false, false] F sc__law_same rfl (by decide) len__law_same (fun cdv A outer s H E Pn hp hr => ⟨_, (b_cons (s_if (y_isNV (p_var (i := 1))) (b_one (s_ret (x_isNV (p_var (i := 0))))) b_nil)
    (b_cons (s_if (y_val (x_isiV B.n_isinstance (p_var (i := 1)) B.n_bool (by decide +kernel))) (b_one (s_ret (x_and (x_isiV B.n_isinstance (p_var (i := 0)) B.n_bool (by decide +kernel)) (x_bone (x_eq hr.units (x_var (i := 0)) (x_var (i := 1))))))) b_nil)
    b_never))⟩) body__law_same
theorem len__law_letter : ∀ ts QD, c__law_letter ts QD → ts.length = 1 := fun ts QD h => by
  unfold c__law_letter at h
  split at h <;> first | rfl | exact h.elim
abbrev N__law_letter : List Str := ["store"]
theorem sc__law_letter : FnScope N__law_letter ["store"] (defScope s__law_letter) := ⟨rfl, rfl, rfl, by decide +kernel, rfl, by decide +kernel, by decide +kernel⟩
theorem ok__law_letter {f : Addr} {fd : FuncData} (B : Blt mg) (F : Fun K "_law_letter" "_law_letter" s__law_letter f fd) (H__law_pick : DfX P w K mg base 3 "_law_pick" ["store", "things"] c__law_pick) (H__law_take : DfX P w K mg base 2 "_law_take" ["store", "many"] c__law_take) : FnOk P w K mg base CX0 4 f fd ["store"] (spOf K (ct0 c__law_letter)) := by
  obtain ⟨f__law_pick, fd__law_pick, D__law_pick⟩ := H__law_pick
  obtain ⟨f__law_take, fd__law_take, D__law_take⟩ := H__law_take
  exact fn_ok (t := t__law_letter) [true] F sc__law_letter rfl (by decide) len__law_letter (fun cdv A outer s H E Pn hp hr => ⟨_, (b_one (s_ret (x_fn D__law_pick.ok (hr.mono (by decide)) D__law_pick.mg D__law_pick.kp D__law_pick.bi (a_io (p_var (i := 0)) (a_cons (x_fz (x_lst (a_cons x_int (a_cons x_int (a_cons x_int (a_cons x_int (a_cons x_int (a_cons x_int (a_cons x_int (a_cons x_int (a_cons x_int (a_cons x_int (a_cons (x_fz (x_neg x_int)) (a_cons x_int (a_cons (x_fz (x_neg x_int)) (a_cons (x_fz (x_fn D__law_take.ok (hr.mono (by decide)) D__law_take.mg D__law_take.kp D__law_take.bi (a_io (p_var (i := 0)) (a_cons x_int a_nil)))) a_nil)))))))))))))))) a_nil)))))⟩) body__law_letter
theorem len__law_read : ∀ ts QD, c__law_read ts QD → ts.length = 2 := fun ts QD h => by
  unfold c__law_read at h
  split at h <;> first | rfl | exact h.elim
abbrev N__law_read : List Str := ["word", "bundles", "left", "k"]
theorem sc__law_read : FnScope N__law_read ["word", "bundles"] (defScope s__law_read) := ⟨rfl, rfl, rfl, by decide +kernel, rfl, by decide +kernel, by decide +kernel⟩
theorem ok__law_read {f : Addr} {fd : FuncData} (B : Blt mg) (F : Fun K "_law_read" "_law_read" s__law_read f fd)  : FnOk P w K mg base CX0 1 f fd ["word", "bundles"] (spOf K (ct0 c__law_read)) := by
  exact fn_ok (t := t__law_read) [false, false] F sc__law_read rfl (by decide) len__law_read (fun cdv A outer s H E Pn hp hr => ⟨_, (b_cons (s_set (i := 2) (hp 2 (by decide)) sc__law_read.nd rfl (by first | exact Or.inl rfl | exact Or.inr rfl) (x_list B.n_list (a_io (p_var (i := 1)) a_nil)))
    (b_cons (s_for PassesOwn.never rfl (i_r1 B.n_range (a_cons (x_fz (x_len B.n_len (a_io (p_var (i := 0)) a_nil))) a_nil)) (g_name (i := 3) (hp 3 (by decide)) sc__law_read.nd rfl (by first | exact Or.inl rfl | exact Or.inr rfl)) (b_one (s_if (y_pt (w_and (y_gt (x_fz (x_len B.n_len (a_io (p_var (i := 2)) a_nil))) x_int) (w_and1 (y_eq hr.units (x_fz (x_ixV (p_var (i := 2)) (x_fz (x_neg x_int)))) (x_fz (x_ixV (p_var (i := 0)) (x_fz (x_sub (x_fz (x_sub (x_fz (x_len B.n_len (a_io (p_var (i := 0)) a_nil))) x_int)) (x_var (i := 3)))))))))) (b_one (s_expr (x_up (x_pop0 (p_var (i := 2)))))) b_nil)))
    (b_one (s_ret (x_eq hr.units (x_fz (x_len B.n_len (a_io (p_var (i := 2)) a_nil))) x_int)))))⟩) body__law_read
theorem len__law_part_of : ∀ ts QD, c__law_part_of ts QD → ts.length = 3 := fun ts QD h => by
  unfold c__law_part_of at h
  split at h <;> first | rfl | exact h.elim
abbrev N__law_part_of : List Str := ["store", "word", "most", "places", "k"]
theorem sc__law_part_of : FnScope N__law_part_of ["store", "word", "most"] (defScope s__law_part_of) := ⟨rfl, rfl, rfl, by decide +kernel, rfl, by decide +kernel, by decide +kernel⟩
theorem ok__law_part_of {f : Addr} {fd : FuncData} (B : Blt mg) (F : Fun K "_law_part_of" "_law_part_of" s__law_part_of f fd) (H__law_some : DfX P w K mg base 3 "_law_some" ["store", "things", "many"] c__law_some) (H__law_take : DfX P w K mg base 2 "_law_take" ["store", "many"] c__law_take) : FnOk P w K mg base CX0 4 f fd ["store", "word", "most"] (spOf K (ct0 c__law_part_of)) := by
  obtain ⟨f__law_some, fd__law_some, D__law_some⟩ := H__law_some
  obtain ⟨f__law_take, fd__law_take, D__law_take⟩ := H__law_take
  exact fn_ok (t := t__law_part_of) [true, false, false] F sc__law_part_of rfl (by decide) len__law_part_of (fun cdv A outer s H E Pn hp hr => ⟨_, (b_cons (s_set (i := 3) (hp 3 (by decide)) sc__law_part_of.nd rfl (by first | exact Or.inl rfl | exact Or.inr rfl) (x_fn D__law_some.ok (hr.mono (by decide)) D__law_some.mg D__law_some.kp D__law_some.bi (a_io (p_var (i := 0)) (a_cons (x_fz (x_listRg rfl B.n_list (r_1 B.n_range (x_fz (x_len B.n_len (a_io (p_var (i := 1)) a_nil)))))) (a_cons (x_fz (x_add x_int (x_fz (x_fn D__law_take.ok (hr.mono (by decide)) D__law_take.mg D__law_take.kp D__law_take.bi (a_io (p_var (i := 0)) (a_cons (x_var (i := 2)) a_nil)))))) a_nil)))))
    (b_one (s_ret (x_lc (own := [("k", 4)]) rfl sc__law_part_of.nd (i_seq (x_fz (x_sorted B.n_sorted (a_io (p_var (i := 3)) a_nil)))) (blkOk_by (own := [("k", 4)]) (N := N__law_part_of) (sc := defScope s__law_part_of) (by decide +kernel)) (fun _ _ _ _ _ _ => (g_name (i := 4) (wipe_keeps (by decide)) sc__law_part_of.nd rfl (by first | exact Or.inl rfl | exact Or.inr rfl))) (fun _ _ _ _ _ => t_nil) (fun _ _ _ _ _ => (x_ixV (p_var (i := 1)) (x_var (i := 4))))))))⟩) body__law_part_of
theorem len__law_bundles : ∀ ts QD, c__law_bundles ts QD → ts.length = 3 := fun ts QD h => by
  unfold c__law_bundles at h
  split at h <;> first | rfl | exact h.elim
abbrev N__law_bundles : List Str := ["store", "word", "most", "shape", "k", "part", "at"]
theorem sc__law_bundles : FnScope N__law_bundles ["store", "word", "most"] (defScope s__law_bundles) := ⟨rfl, rfl, rfl, by decide +kernel, rfl, by decide +kernel, by decide +kernel⟩
theorem ok__law_bundles {f : Addr} {fd : FuncData} (B : Blt mg) (F : Fun K "_law_bundles" "_law_bundles" s__law_bundles f fd) (H__law_take : DfX P w K mg base 2 "_law_take" ["store", "many"] c__law_take) (H__law_letter : DfX P w K mg base 4 "_law_letter" ["store"] c__law_letter) (H__law_part_of : DfX P w K mg base 4 "_law_part_of" ["store", "word", "most"] c__law_part_of) : FnOk P w K mg base CX0 5 f fd ["store", "word", "most"] (spOf K (ct0 c__law_bundles)) := by
  obtain ⟨f__law_take, fd__law_take, D__law_take⟩ := H__law_take
  obtain ⟨f__law_letter, fd__law_letter, D__law_letter⟩ := H__law_letter
  obtain ⟨f__law_part_of, fd__law_part_of, D__law_part_of⟩ := H__law_part_of
  exact fn_ok (t := t__law_bundles) [true, false, false] F sc__law_bundles rfl (by decide) len__law_bundles (fun cdv A outer s H E Pn hp hr => ⟨_, (b_cons (s_set (i := 3) (hp 3 (by decide)) sc__law_bundles.nd rfl (by first | exact Or.inl rfl | exact Or.inr rfl) (x_fn D__law_take.ok (hr.mono (by decide)) D__law_take.mg D__law_take.kp D__law_take.bi (a_io (p_var (i := 0)) (a_cons x_int a_nil))))
    (b_cons (s_if (y_pt (w_or (y_eq hr.units (x_var (i := 3)) x_int) (w_or1 (y_eq hr.units (x_fz (x_len B.n_len (a_io (p_var (i := 1)) a_nil))) x_int)))) (b_one (s_ret (x_lc (own := [("k", 4)]) rfl sc__law_bundles.nd (i_r1 B.n_range (a_cons (x_fz (x_add x_int (x_fz (x_fn D__law_take.ok (hr.mono (by decide)) D__law_take.mg D__law_take.kp D__law_take.bi (a_io (p_var (i := 0)) (a_cons x_int a_nil)))))) a_nil)) (blkOk_by (own := [("k", 4)]) (N := N__law_bundles) (sc := defScope s__law_bundles) (by decide +kernel)) (fun _ _ _ _ _ _ => (g_name (i := 4) (wipe_keeps (by decide)) sc__law_bundles.nd rfl (by first | exact Or.inl rfl | exact Or.inr rfl))) (fun _ _ _ _ _ => t_nil) (fun _ _ _ _ _ => (x_fn D__law_letter.ok (hr.mono (by decide)) D__law_letter.mg D__law_letter.kp D__law_letter.bi (a_io (p_var (i := 0)) a_nil)))))) b_nil)
    (b_cons (s_set (i := 5) (hp 5 (by decide)) sc__law_bundles.nd rfl (by first | exact Or.inl rfl | exact Or.inr rfl) (x_fn D__law_part_of.ok (hr.mono (by decide)) D__law_part_of.mg D__law_part_of.kp D__law_part_of.bi (a_io (p_var (i := 0)) (a_cons (x_var (i := 1)) (a_cons (x_var (i := 2)) a_nil)))))
    (b_cons (s_set (i := 6) (hp 6 (by decide)) sc__law_bundles.nd rfl (by first | exact Or.inl rfl | exact Or.inr rfl) (x_fn D__law_take.ok (hr.mono (by decide)) D__law_take.mg D__law_take.kp D__law_take.bi (a_io (p_var (i := 0)) (a_cons (x_fz (x_len B.n_len (a_io (p_var (i := 5)) a_nil))) a_nil))))
    (b_join (s_if (y_pt (w_or (y_eq hr.units (x_var (i := 3)) x_int) (w_or1 (y_eq hr.units (x_var (i := 3)) x_int)))) (b_one (s_expr (x_up (x_insert (p_var (i := 5)) (a_cons (x_var (i := 6)) (a_cons (x_fz (x_ixV (p_var (i := 5)) (x_var (i := 6)))) a_nil)))))) b_nil)
    (b_join (s_if (y_eq hr.units (x_var (i := 3)) x_int) (b_one (s_expr (x_up (x_append (p_var (i := 5)) (a_cons (x_fz (x_ixV (p_var (i := 5)) (x_fz (x_fn D__law_take.ok (hr.mono (by decide)) D__law_take.mg D__law_take.kp D__law_take.bi (a_io (p_var (i := 0)) (a_cons (x_fz (x_len B.n_len (a_io (p_var (i := 5)) a_nil))) a_nil)))))) a_nil))))) b_nil)
    (b_join (s_if (y_pt (w_and (y_eq hr.units (x_var (i := 3)) x_int) (w_and1 (y_gt (x_var (i := 6)) x_int)))) (b_one (s_set (i := 5) (hp 5 (by decide)) sc__law_bundles.nd rfl (by first | exact Or.inl rfl | exact Or.inr rfl) (x_add (x_fz (x_add (x_fz (x_slV (p_var (i := 5)) o_none (o_some (x_fz (x_sub (x_var (i := 6)) x_int))))) (x_fz (x_lst (a_cons (x_fz (x_ixV (p_var (i := 5)) (x_var (i := 6)))) (a_cons (x_fz (x_ixV (p_var (i := 5)) (x_fz (x_sub (x_var (i := 6)) x_int)))) a_nil)))))) (x_fz (x_slV (p_var (i := 5)) (o_some (x_fz (x_add (x_var (i := 6)) x_int))) o_none))))) b_nil)
    (b_join (s_if (y_eq hr.units (x_var (i := 3)) x_int) (b_one (s_expr (x_up (x_insert (p_var (i := 5)) (a_cons (x_fz (x_fn D__law_take.ok (hr.mono (by decide)) D__law_take.mg D__law_take.kp D__law_take.bi (a_io (p_var (i := 0)) (a_cons (x_fz (x_add (x_fz (x_len B.n_len (a_io (p_var (i := 5)) a_nil))) x_int)) a_nil)))) (a_cons (x_fz (x_fn D__law_letter.ok (hr.mono (by decide)) D__law_letter.mg D__law_letter.kp D__law_letter.bi (a_io (p_var (i := 0)) a_nil))) a_nil)))))) b_nil)
    (b_join (s_if (y_pt (w_and (y_eq hr.units (x_var (i := 3)) x_int) (w_and1 (y_eq hr.units (x_fz (x_fn D__law_take.ok (hr.mono (by decide)) D__law_take.mg D__law_take.kp D__law_take.bi (a_io (p_var (i := 0)) (a_cons x_int a_nil)))) x_int)))) (b_one (s_set (i := 5) (hp 5 (by decide)) sc__law_bundles.nd rfl (by first | exact Or.inl rfl | exact Or.inr rfl) (x_listRevV rfl B.n_list B.n_reversed (p_var (i := 5))))) b_nil)
    (b_one (s_ret (x_mv (p_var (i := 5))))))))))))))⟩) body__law_bundles
theorem len__law_path : ∀ ts QD, c__law_path ts QD → ts.length = 2 := fun ts QD h => by
  unfold c__law_path at h
  split at h <;> first | rfl | exact h.elim
abbrev N__law_path : List Str := ["store", "bundles", "path", "b"]
theorem sc__law_path : FnScope N__law_path ["store", "bundles"] (defScope s__law_path) := ⟨rfl, rfl, rfl, by decide +kernel, rfl, by decide +kernel, by decide +kernel⟩
theorem ok__law_path {f : Addr} {fd : FuncData} (B : Blt mg) (F : Fun K "_law_path" "_law_path" s__law_path f fd) (H__law_letter : DfX P w K mg base 4 "_law_letter" ["store"] c__law_letter) : FnOk P w K mg base CX0 5 f fd ["store", "bundles"] (spOf K (ct0 c__law_path)) := by
  obtain ⟨f__law_letter, fd__law_letter, D__law_letter⟩ := H__law_letter
  exact fn_ok (t := t__law_path) [true, false] F sc__law_path rfl (by decide) len__law_path (fun cdv A outer s H E Pn hp hr => ⟨_, (b_cons (s_set (i := 2) (hp 2 (by decide)) sc__law_path.nd rfl (by first | exact Or.inl rfl | exact Or.inr rfl) (x_lst (a_cons (x_fz (x_ixV (p_var (i := 1)) x_int)) a_nil)))
    (b_cons (s_for PassesOwn.never rfl (i_seq (x_fz (x_slV (p_var (i := 1)) (o_some x_int) o_none))) (g_name (i := 3) (hp 3 (by decide)) sc__law_path.nd rfl (by first | exact Or.inl rfl | exact Or.inr rfl)) (b_one (s_set (i := 2) (hp 2 (by decide)) sc__law_path.nd rfl (by first | exact Or.inl rfl | exact Or.inr rfl) (x_add (x_var (i := 2)) (x_fz (x_lst (a_cons (x_fz (x_fn D__law_letter.ok (hr.mono (by decide)) D__law_letter.mg D__law_letter.kp D__law_letter.bi (a_io (p_var (i := 0)) a_nil))) (a_cons (x_var (i := 3)) a_nil))))))))
    (b_one (s_ret (x_mv (p_var (i := 2)))))))⟩) body__law_path
theorem len__law_tells : ∀ ts QD, c__law_tells ts QD → ts.length = 3 := fun ts QD h => by
  unfold c__law_tells at h
  split at h <;> first | rfl | exact h.elim
abbrev N__law_tells : List Str := ["word", "path", "form", "bundles", "k", "given"]
theorem sc__law_tells : FnScope N__law_tells ["word", "path", "form"] (defScope s__law_tells) := ⟨rfl, rfl, rfl, by decide +kernel, rfl, by decide +kernel, by decide +kernel⟩
theorem ok__law_tells {f : Addr} {fd : FuncData} (B : Blt mg) (F : Fun K "_law_tells" "_law_tells" s__law_tells f fd) (H__law_same : DfX P w K mg base 1 "_law_same" ["actual", "due"] c__law_same) (H__law_read : DfX P w K mg base 1 "_law_read" ["word", "bundles"] c__law_read) (H_reads : DfX P w K mg base 1 "reads" ["word", "path"] c_reads) : FnOk P w K mg base CX0 2 f fd ["word", "path", "form"] (spOf K (ct0 c__law_tells)) := by
  obtain ⟨f__law_same, fd__law_same, D__law_same⟩ := H__law_same
  obtain ⟨f__law_read, fd__law_read, D__law_read⟩ := H__law_read
  obtain ⟨f_reads, fd_reads, D_reads⟩ := H_reads
  exact fn_ok (t := t__law_tells) [false, false, false] F sc__law_tells rfl (by decide) len__law_tells (fun cdv A outer s H E Pn hp hr => ⟨_, (b_cons (s_setLc (j := 3) (hp 3 (by decide)) rfl sc__law_tells.nd rfl rfl (sw_true rfl rfl rfl (by decide +kernel)) (own := [("k", 4)]) (i_r1 B.n_range (a_cons (x_fz (x_add (x_fz (x_div (x_fz (x_len B.n_len (a_io (p_var (i := 1)) a_nil))) x_int)) x_int)) a_nil)) (blkOk_by (own := [("k", 4)]) (N := N__law_tells) (sc := defScope s__law_tells) (by decide +kernel)) (fun _ _ _ _ _ _ => (g_name (i := 4) (wipe_keeps (by decide)) sc__law_tells.nd rfl (by first | exact Or.inl rfl | exact Or.inr rfl))) (fun _ _ _ _ _ => t_nil) (fun _ _ _ _ _ => (x_ixV (p_var (i := 1)) (x_fz (x_mul x_int (x_var (i := 4)))))))
    (b_cons (s_set (i := 5) (hp 5 (by decide)) sc__law_tells.nd rfl (by first | exact Or.inl rfl | exact Or.inr rfl) (x_lst (a_cons (x_fz (x_list B.n_list (a_io (p_var (i := 0)) a_nil))) (a_cons (x_fz (x_list B.n_list (a_io (p_var (i := 1)) a_nil))) a_nil))))
    (b_join (s_if (y_eq hr.units (x_fz (x_mod (x_fz (x_toInt B.n_int (a_io (p_var (i := 2)) a_nil))) x_int)) x_int) (b_one (s_asg (x_tuple B.n_tuple (a_io (p_var (i := 0)) a_nil)) (g_sub (p_var (i := 5)) x_int))) b_nil)
    (b_join (s_if (y_eq hr.units (x_fz (x_div (x_var (i := 2)) x_int)) x_int) (b_one (s_asg (x_tuple B.n_tuple (a_io (p_var (i := 1)) a_nil)) (g_sub (p_var (i := 5)) x_int))) b_nil)
    (b_cons (s_if (y_not (y_val (x_fn D__law_same.ok (hr.mono (by decide)) D__law_same.mg D__law_same.kp D__law_same.bi (a_cons (x_fz (x_fn D_reads.ok (hr.mono (by decide)) D_reads.mg D_reads.kp D_reads.bi (a_cons (x_fz (x_ixV (p_var (i := 5)) x_int)) (a_cons (x_fz (x_ixV (p_var (i := 5)) x_int)) a_nil)))) (a_cons (x_fz (x_fn D__law_read.ok (hr.mono (by decide)) D__law_read.mg D__law_read.kp D__law_read.bi (a_cons (x_var (i := 0)) (a_cons (x_var (i := 3)) a_nil)))) a_nil))))) (b_one (s_ret (x_up x_bl))) b_nil)
    (b_one (s_ret (x_and (x_eq hr.units (x_fz (x_list B.n_list (a_cons (x_fz (x_ixV (p_var (i := 5)) x_int)) a_nil))) (x_fz (x_list B.n_list (a_io (p_var (i := 0)) a_nil)))) (x_bone (x_eq hr.units (x_fz (x_list B.n_list (a_cons (x_fz (x_ixV (p_var (i := 5)) x_int)) a_nil))) (x_fz (x_list B.n_list (a_io (p_var (i := 1)) a_nil)))))))))))))⟩) body__law_tells
theorem len_law : ∀ ts QD, c_law ts QD → ts.length = 1 := fun ts QD h => by
  unfold c_law at h
  split at h <;> first | rfl | exact h.elim
abbrev N_law : List Str := ["script", "store", "great", "k", "word", "j", "most", "path", "at", "bundles", "more"]
theorem sc_law : FnScope N_law ["script"] (defScope s_law) := ⟨rfl, rfl, rfl, by decide +kernel, rfl, by decide +kernel, by decide +kernel⟩
theorem ok_law {f : Addr} {fd : FuncData} (B : Blt mg) (F : Fun K "law" "law" s_law f fd) (H__law_store : DfX P w K mg base 1 "_law_store" ["script"] c__law_store) (H__law_take : DfX P w K mg base 2 "_law_take" ["store", "many"] c__law_take) (H__law_letter : DfX P w K mg base 4 "_law_letter" ["store"] c__law_letter) (H__law_pick : DfX P w K mg base 3 "_law_pick" ["store", "things"] c__law_pick) (H__law_path : DfX P w K mg base 5 "_law_path" ["store", "bundles"] c__law_path) (H__law_bundles : DfX P w K mg base 5 "_law_bundles" ["store", "word", "most"] c__law_bundles) (H__law_tells : DfX P w K mg base 2 "_law_tells" ["word", "path", "form"] c__law_tells) : FnOk P w K mg base CX0 6 f fd ["script"] (spOf K (ct0 c_law)) := by
  obtain ⟨f__law_store, fd__law_store, D__law_store⟩ := H__law_store
  obtain ⟨f__law_take, fd__law_take, D__law_take⟩ := H__law_take
  obtain ⟨f__law_letter, fd__law_letter, D__law_letter⟩ := H__law_letter
  obtain ⟨f__law_pick, fd__law_pick, D__law_pick⟩ := H__law_pick
  obtain ⟨f__law_path, fd__law_path, D__law_path⟩ := H__law_path
  obtain ⟨f__law_bundles, fd__law_bundles, D__law_bundles⟩ := H__law_bundles
  obtain ⟨f__law_tells, fd__law_tells, D__law_tells⟩ := H__law_tells
  exact fn_ok (t := t_law) [false] F sc_law rfl (by decide) len_law (fun cdv A outer s H E Pn hp hr => ⟨_, (b_cons (s_set (i := 1) (hp 1 (by decide)) sc_law.nd rfl (by first | exact Or.inl rfl | exact Or.inr rfl) (x_fn D__law_store.ok (hr.mono (by decide)) D__law_store.mg D__law_store.kp D__law_store.bi (a_cons (x_var (i := 0)) a_nil)))
    (b_cons (s_set (i := 2) (hp 2 (by decide)) sc_law.nd rfl (by first | exact Or.inl rfl | exact Or.inr rfl) (x_eq hr.units (x_fz (x_fn D__law_take.ok (hr.mono (by decide)) D__law_take.mg D__law_take.kp D__law_take.bi (a_io (p_var (i := 1)) (a_cons x_int a_nil)))) x_int))
    (b_cons (s_for PassesOwn.never rfl (i_r1 B.n_range (a_cons x_int a_nil)) (g_name (i := 3) (hp 3 (by decide)) sc_law.nd rfl (by first | exact Or.inl rfl | exact Or.inr rfl)) (b_cons (s_setLc (j := 4) (hp 4 (by decide)) rfl sc_law.nd rfl rfl (sw_true rfl rfl rfl (by decide +kernel)) (own := [("j", 5)]) (i_r1 B.n_range (a_cons (x_fz (x_fn D__law_take.ok (hr.mono (by decide)) D__law_take.mg D__law_take.kp D__law_take.bi (a_io (p_var (i := 1)) (a_cons x_int a_nil)))) a_nil)) (blkOk_by (own := [("j", 5)]) (N := N_law) (sc := defScope s_law) (by decide +kernel)) (fun _ _ _ _ _ _ => (g_name (i := 5) (wipe_keeps (by decide)) sc_law.nd rfl (by first | exact Or.inl rfl | exact Or.inr rfl))) (fun _ _ _ _ _ => t_nil) (fun _ _ _ _ _ => (x_fn D__law_letter.ok (hr.mono (by decide)) D__law_letter.mg D__law_letter.kp D__law_letter.bi (a_io (p_var (i := 1)) a_nil))))
    (b_cons (s_set (i := 6) (hp 6 (by decide)) sc_law.nd rfl (by first | exact Or.inl rfl | exact Or.inr rfl) (x_up x_int))
    (b_join (s_if (y_pt (w_and (y_var (p_var (i := 2))) (w_and1 (y_eq hr.units (x_var (i := 3)) x_int)))) (b_cons (s_setLc (j := 4) (hp 4 (by decide)) rfl sc_law.nd rfl rfl (sw_true rfl rfl rfl (by decide +kernel)) (own := [("j", 5)]) (i_r1 B.n_range (a_cons (x_fz (x_fn D__law_pick.ok (hr.mono (by decide)) D__law_pick.mg D__law_pick.kp D__law_pick.bi (a_io (p_var (i := 1)) (a_cons (x_fz (x_lst (a_cons x_int (a_cons x_int (a_cons x_int a_nil))))) a_nil)))) a_nil)) (blkOk_by (own := [("j", 5)]) (N := N_law) (sc := defScope s_law) (by decide +kernel)) (fun _ _ _ _ _ _ => (g_name (i := 5) (wipe_keeps (by decide)) sc_law.nd rfl (by first | exact Or.inl rfl | exact Or.inr rfl))) (fun _ _ _ _ _ => t_nil) (fun _ _ _ _ _ => (x_fn D__law_letter.ok (hr.mono (by decide)) D__law_letter.mg D__law_letter.kp D__law_letter.bi (a_io (p_var (i := 1)) a_nil))))
    (b_one (s_set (i := 6) (hp 6 (by decide)) sc_law.nd rfl (by first | exact Or.inl rfl | exact Or.inr rfl) (x_up x_int)))) b_nil)
    (b_cons (s_set (i := 7) (hp 7 (by decide)) sc_law.nd rfl (by first | exact Or.inl rfl | exact Or.inr rfl) (x_fn D__law_path.ok (hr.mono (by decide)) D__law_path.mg D__law_path.kp D__law_path.bi (a_io (p_var (i := 1)) (a_cons (x_fz (x_fn D__law_bundles.ok (hr.mono (by decide)) D__law_bundles.mg D__law_bundles.kp D__law_bundles.bi (a_io (p_var (i := 1)) (a_cons (x_var (i := 4)) (a_cons (x_var (i := 6)) a_nil))))) a_nil))))
    (b_cons (s_if (y_not (y_val (x_fn D__law_tells.ok (hr.mono (by decide)) D__law_tells.mg D__law_tells.kp D__law_tells.bi (a_cons (x_var (i := 4)) (a_cons (x_var (i := 7)) (a_cons (x_fz (x_fn D__law_take.ok (hr.mono (by decide)) D__law_take.mg D__law_take.kp D__law_take.bi (a_io (p_var (i := 1)) (a_cons x_int a_nil)))) a_nil)))))) (b_one (s_ret (x_up x_bl))) b_nil)
    (b_cons (s_set (i := 8) (hp 8 (by decide)) sc_law.nd rfl (by first | exact Or.inl rfl | exact Or.inr rfl) (x_fn D__law_take.ok (hr.mono (by decide)) D__law_take.mg D__law_take.kp D__law_take.bi (a_io (p_var (i := 1)) (a_cons (x_fz (x_add (x_fz (x_len B.n_len (a_io (p_var (i := 4)) a_nil))) x_int)) a_nil))))
    (b_cons (s_if (y_not (y_val (x_fn D__law_tells.ok (hr.mono (by decide)) D__law_tells.mg D__law_tells.kp D__law_tells.bi (a_cons (x_fz (x_add (x_fz (x_slV (p_var (i := 4)) o_none (o_some (x_var (i := 8))))) (x_fz (x_slV (p_var (i := 4)) (o_some (x_fz (x_add (x_var (i := 8)) x_int))) o_none)))) (a_cons (x_var (i := 7)) (a_cons (x_fz (x_fn D__law_take.ok (hr.mono (by decide)) D__law_take.mg D__law_take.kp D__law_take.bi (a_io (p_var (i := 1)) (a_cons x_int a_nil)))) a_nil)))))) (b_one (s_ret (x_up x_bl))) b_nil)
    (b_cons (s_setLc (j := 9) (hp 9 (by decide)) rfl sc_law.nd rfl rfl (sw_true rfl rfl rfl (by decide +kernel)) (own := [("j", 5)]) (i_r1 B.n_range (a_cons (x_fz (x_add (x_fz (x_div (x_fz (x_len B.n_len (a_io (p_var (i := 7)) a_nil))) x_int)) x_int)) a_nil)) (blkOk_by (own := [("j", 5)]) (N := N_law) (sc := defScope s_law) (by decide +kernel)) (fun _ _ _ _ _ _ => (g_name (i := 5) (wipe_keeps (by decide)) sc_law.nd rfl (by first | exact Or.inl rfl | exact Or.inr rfl))) (fun _ _ _ _ _ => t_nil) (fun _ _ _ _ _ => (x_ixV (p_var (i := 7)) (x_fz (x_mul x_int (x_var (i := 5)))))))
    (b_cons (s_set (i := 10) (hp 10 (by decide)) sc_law.nd rfl (by first | exact Or.inl rfl | exact Or.inr rfl) (x_fn D__law_pick.ok (hr.mono (by decide)) D__law_pick.mg D__law_pick.kp D__law_pick.bi (a_io (p_var (i := 1)) (a_cons (x_var (i := 9)) a_nil))))
    (b_cons (s_if (y_not (y_val (x_fn D__law_tells.ok (hr.mono (by decide)) D__law_tells.mg D__law_tells.kp D__law_tells.bi (a_cons (x_fz (x_add (x_fz (x_add (x_fz (x_slV (p_var (i := 4)) o_none (o_some (x_var (i := 8))))) (x_fz (x_lst (a_cons (x_var (i := 10)) a_nil))))) (x_fz (x_slV (p_var (i := 4)) (o_some (x_var (i := 8))) o_none)))) (a_cons (x_var (i := 7)) (a_cons (x_fz (x_fn D__law_take.ok (hr.mono (by decide)) D__law_take.mg D__law_take.kp D__law_take.bi (a_io (p_var (i := 1)) (a_cons x_int a_nil)))) a_nil)))))) (b_one (s_ret (x_up x_bl))) b_nil)
    (b_cons (s_if (y_pt (w_or (y_not (y_val (x_fn D__law_tells.ok (hr.mono (by decide)) D__law_tells.mg D__law_tells.kp D__law_tells.bi (a_cons (x_var (i := 4)) (a_cons (x_var (i := 7)) (a_cons x_int a_nil)))))) (w_or1 (y_not (y_val (x_fn D__law_tells.ok (hr.mono (by decide)) D__law_tells.mg D__law_tells.kp D__law_tells.bi (a_cons (x_var (i := 9)) (a_cons (x_fz (x_fn D__law_path.ok (hr.mono (by decide)) D__law_path.mg D__law_path.kp D__law_path.bi (a_io (p_var (i := 1)) (a_cons (x_var (i := 9)) a_nil)))) (a_cons (x_fz (x_fn D__law_take.ok (hr.mono (by decide)) D__law_take.mg D__law_take.kp D__law_take.bi (a_io (p_var (i := 1)) (a_cons x_int a_nil)))) a_nil))))))))) (b_one (s_ret (x_up x_bl))) b_nil)
    (b_cons (s_if (y_not (y_val (x_fn D__law_tells.ok (hr.mono (by decide)) D__law_tells.mg D__law_tells.kp D__law_tells.bi (a_cons (x_var (i := 9)) (a_cons (x_fz (x_fn D__law_path.ok (hr.mono (by decide)) D__law_path.mg D__law_path.kp D__law_path.bi (a_io (p_var (i := 1)) (a_cons (x_fz (x_add (x_var (i := 9)) (x_fz (x_lst (a_cons (x_var (i := 10)) a_nil))))) a_nil)))) (a_cons (x_fz (x_fn D__law_take.ok (hr.mono (by decide)) D__law_take.mg D__law_take.kp D__law_take.bi (a_io (p_var (i := 1)) (a_cons x_int a_nil)))) a_nil)))))) (b_one (s_ret (x_up x_bl))) b_nil)
    (b_one (s_if (y_not (y_val (x_fn D__law_tells.ok (hr.mono (by decide)) D__law_tells.mg D__law_tells.kp D__law_tells.bi (a_cons (x_var (i := 9)) (a_cons (x_fz (x_fn D__law_path.ok (hr.mono (by decide)) D__law_path.mg D__law_path.kp D__law_path.bi (a_io (p_var (i := 1)) (a_cons (x_fz (x_add (x_fz (x_lst (a_cons (x_var (i := 10)) a_nil))) (x_var (i := 9)))) a_nil)))) (a_cons x_int a_nil)))))) (b_one (s_ret (x_up x_bl))) b_nil)))))))))))))))
    (b_one (s_ret (x_and (x_fn D__law_tells.ok (hr.mono (by decide)) D__law_tells.mg D__law_tells.kp D__law_tells.bi (a_cons (x_fz (x_lst a_nil)) (a_cons (x_fz (x_lst (a_cons x_int a_nil))) (a_cons x_int a_nil)))) (x_and (x_fn D__law_tells.ok (hr.mono (by decide)) D__law_tells.mg D__law_tells.kp D__law_tells.bi (a_cons (x_fz (x_lst (a_cons (x_var (i := 10)) a_nil))) (a_cons (x_fz (x_lst (a_cons (x_var (i := 10)) a_nil))) (a_cons x_int a_nil)))) (x_bone (x_fn D__law_tells.ok (hr.mono (by decide)) D__law_tells.mg D__law_tells.kp D__law_tells.bi (a_cons (x_fz (x_lst (a_cons (x_var (i := 10)) a_nil))) (a_cons (x_fz (x_lst (a_cons (x_var (i := 10)) (a_cons x_int (a_cons (x_var (i := 10)) a_nil))))) (a_cons x_int a_nil))))))))))))⟩) body_law
end
theorem all_mk {l : PySem.W.OpenLaw} {w : World} {K : PySem.W.Frag} {h : Heap} {mg : Str → Option Value} {fa : Addr} {f0 f1 f2 f3 f4 f5 f6 f7 f8 f9 f10 f11 f12 f13 f14 : Addr} {od0 an0 od1 an1 od2 an2 od3 an3 od4 an4 od5 an5 od6 an6 od7 an7 od8 an8 od9 an9 od10 an10 od11 an11 od12 an12 od13 an13 od14 an14 : Option Addr} {sl0 sl1 sl2 sl3 sl4 sl5 sl6 sl7 sl8 sl9 sl10 sl11 sl12 sl13 sl14 : Array (Option Value)} {oc0 kV0 dc0 pm0 cd0 ct0 oc1 kV1 dc1 pm1 cd1 ct1 oc2 kV2 dc2 pm2 cd2 ct2 oc3 kV3 dc3 pm3 cd3 ct3 oc4 kV4 dc4 pm4 cd4 ct4 oc5 kV5 dc5 pm5 cd5 ct5 oc6 kV6 dc6 pm6 cd6 ct6 oc7 kV7 dc7 pm7 cd7 ct7 oc8 kV8 dc8 pm8 cd8 ct8 oc9 kV9 dc9 pm9 cd9 ct9 oc10 kV10 dc10 pm10 cd10 ct10 oc11 kV11 dc11 pm11 cd11 ct11 oc12 kV12 dc12 pm12 cd12 ct12 oc13 kV13 dc13 pm13 cd13 ct13 oc14 kV14 dc14 pm14 cd14 ct14 : Value} (X : K.In h) (G : h.Ns mainGlobals mg) (hfa : mg "law" = some (.ref fa))
    (a0 : PySem.W.nsIn K mainGlobals "reads" = some (some (.ref f0))) (l0 : K.lookup f0 = some ⟨oc0, od0, .func (PySem.W.fnOf "reads" "reads" (defArgs s_reads) (defBody s_reads) (defScope s_reads) .none kV0 dc0 pm0 an0 cd0 ct0), sl0⟩) (c0 : PySem.W.codeIn K cd0 "reads" = true) (k0 : PySem.W.keepIn K (.ref f0) = true)
    (a1 : PySem.W.nsIn K mainGlobals "_law_mix" = some (some (.ref f1))) (l1 : K.lookup f1 = some ⟨oc1, od1, .func (PySem.W.fnOf "_law_mix" "_law_mix" (defArgs s__law_mix) (defBody s__law_mix) (defScope s__law_mix) .none kV1 dc1 pm1 an1 cd1 ct1), sl1⟩) (c1 : PySem.W.codeIn K cd1 "_law_mix" = true) (k1 : PySem.W.keepIn K (.ref f1) = true)
    (a2 : PySem.W.nsIn K mainGlobals "_law_store" = some (some (.ref f2))) (l2 : K.lookup f2 = some ⟨oc2, od2, .func (PySem.W.fnOf "_law_store" "_law_store" (defArgs s__law_store) (defBody s__law_store) (defScope s__law_store) .none kV2 dc2 pm2 an2 cd2 ct2), sl2⟩) (c2 : PySem.W.codeIn K cd2 "_law_store" = true) (k2 : PySem.W.keepIn K (.ref f2) = true)
    (a3 : PySem.W.nsIn K mainGlobals "_law_load" = some (some (.ref f3))) (l3 : K.lookup f3 = some ⟨oc3, od3, .func (PySem.W.fnOf "_law_load" "_law_load" (defArgs s__law_load) (defBody s__law_load) (defScope s__law_load) .none kV3 dc3 pm3 an3 cd3 ct3), sl3⟩) (c3 : PySem.W.codeIn K cd3 "_law_load" = true) (k3 : PySem.W.keepIn K (.ref f3) = true)
    (a4 : PySem.W.nsIn K mainGlobals "_law_take" = some (some (.ref f4))) (l4 : K.lookup f4 = some ⟨oc4, od4, .func (PySem.W.fnOf "_law_take" "_law_take" (defArgs s__law_take) (defBody s__law_take) (defScope s__law_take) .none kV4 dc4 pm4 an4 cd4 ct4), sl4⟩) (c4 : PySem.W.codeIn K cd4 "_law_take" = true) (k4 : PySem.W.keepIn K (.ref f4) = true)
    (a5 : PySem.W.nsIn K mainGlobals "_law_pick" = some (some (.ref f5))) (l5 : K.lookup f5 = some ⟨oc5, od5, .func (PySem.W.fnOf "_law_pick" "_law_pick" (defArgs s__law_pick) (defBody s__law_pick) (defScope s__law_pick) .none kV5 dc5 pm5 an5 cd5 ct5), sl5⟩) (c5 : PySem.W.codeIn K cd5 "_law_pick" = true) (k5 : PySem.W.keepIn K (.ref f5) = true)
    (a6 : PySem.W.nsIn K mainGlobals "_law_some" = some (some (.ref f6))) (l6 : K.lookup f6 = some ⟨oc6, od6, .func (PySem.W.fnOf "_law_some" "_law_some" (defArgs s__law_some) (defBody s__law_some) (defScope s__law_some) .none kV6 dc6 pm6 an6 cd6 ct6), sl6⟩) (c6 : PySem.W.codeIn K cd6 "_law_some" = true) (k6 : PySem.W.keepIn K (.ref f6) = true)
    (a7 : PySem.W.nsIn K mainGlobals "_law_same" = some (some (.ref f7))) (l7 : K.lookup f7 = some ⟨oc7, od7, .func (PySem.W.fnOf "_law_same" "_law_same" (defArgs s__law_same) (defBody s__law_same) (defScope s__law_same) .none kV7 dc7 pm7 an7 cd7 ct7), sl7⟩) (c7 : PySem.W.codeIn K cd7 "_law_same" = true) (k7 : PySem.W.keepIn K (.ref f7) = true)
    (a8 : PySem.W.nsIn K mainGlobals "_law_letter" = some (some (.ref f8))) (l8 : K.lookup f8 = some ⟨oc8, od8, .func (PySem.W.fnOf "_law_letter" "_law_letter" (defArgs s__law_letter) (defBody s__law_letter) (defScope s__law_letter) .none kV8 dc8 pm8 an8 cd8 ct8), sl8⟩) (c8 : PySem.W.codeIn K cd8 "_law_letter" = true) (k8 : PySem.W.keepIn K (.ref f8) = true)
    (a9 : PySem.W.nsIn K mainGlobals "_law_read" = some (some (.ref f9))) (l9 : K.lookup f9 = some ⟨oc9, od9, .func (PySem.W.fnOf "_law_read" "_law_read" (defArgs s__law_read) (defBody s__law_read) (defScope s__law_read) .none kV9 dc9 pm9 an9 cd9 ct9), sl9⟩) (c9 : PySem.W.codeIn K cd9 "_law_read" = true) (k9 : PySem.W.keepIn K (.ref f9) = true)
    (a10 : PySem.W.nsIn K mainGlobals "_law_part_of" = some (some (.ref f10))) (l10 : K.lookup f10 = some ⟨oc10, od10, .func (PySem.W.fnOf "_law_part_of" "_law_part_of" (defArgs s__law_part_of) (defBody s__law_part_of) (defScope s__law_part_of) .none kV10 dc10 pm10 an10 cd10 ct10), sl10⟩) (c10 : PySem.W.codeIn K cd10 "_law_part_of" = true) (k10 : PySem.W.keepIn K (.ref f10) = true)
    (a11 : PySem.W.nsIn K mainGlobals "_law_bundles" = some (some (.ref f11))) (l11 : K.lookup f11 = some ⟨oc11, od11, .func (PySem.W.fnOf "_law_bundles" "_law_bundles" (defArgs s__law_bundles) (defBody s__law_bundles) (defScope s__law_bundles) .none kV11 dc11 pm11 an11 cd11 ct11), sl11⟩) (c11 : PySem.W.codeIn K cd11 "_law_bundles" = true) (k11 : PySem.W.keepIn K (.ref f11) = true)
    (a12 : PySem.W.nsIn K mainGlobals "_law_path" = some (some (.ref f12))) (l12 : K.lookup f12 = some ⟨oc12, od12, .func (PySem.W.fnOf "_law_path" "_law_path" (defArgs s__law_path) (defBody s__law_path) (defScope s__law_path) .none kV12 dc12 pm12 an12 cd12 ct12), sl12⟩) (c12 : PySem.W.codeIn K cd12 "_law_path" = true) (k12 : PySem.W.keepIn K (.ref f12) = true)
    (a13 : PySem.W.nsIn K mainGlobals "_law_tells" = some (some (.ref f13))) (l13 : K.lookup f13 = some ⟨oc13, od13, .func (PySem.W.fnOf "_law_tells" "_law_tells" (defArgs s__law_tells) (defBody s__law_tells) (defScope s__law_tells) .none kV13 dc13 pm13 an13 cd13 ct13), sl13⟩) (c13 : PySem.W.codeIn K cd13 "_law_tells" = true) (k13 : PySem.W.keepIn K (.ref f13) = true)
    (a14 : PySem.W.nsIn K mainGlobals "law" = some (some (.ref f14))) (l14 : K.lookup f14 = some ⟨oc14, od14, .func (PySem.W.fnOf "law" "law" (defArgs s_law) (defBody s_law) (defScope s_law) .none kV14 dc14 pm14 an14 cd14 ct14), sl14⟩) (c14 : PySem.W.codeIn K cd14 "law" = true) (k14 : PySem.W.keepIn K (.ref f14) = true)
    (z_bool : PySem.W.nsIn K mainGlobals "bool" = some none)
    (z_int : PySem.W.nsIn K mainGlobals "int" = some none)
    (z_isinstance : PySem.W.nsIn K mainGlobals "isinstance" = some none)
    (z_len : PySem.W.nsIn K mainGlobals "len" = some none)
    (z_list : PySem.W.nsIn K mainGlobals "list" = some none)
    (z_max : PySem.W.nsIn K mainGlobals "max" = some none)
    (z_min : PySem.W.nsIn K mainGlobals "min" = some none)
    (z_range : PySem.W.nsIn K mainGlobals "range" = some none)
    (z_reversed : PySem.W.nsIn K mainGlobals "reversed" = some none)
    (z_sorted : PySem.W.nsIn K mainGlobals "sorted" = some none)
    (z_tuple : PySem.W.nsIn K mainGlobals "tuple" = some none)
    : ∃ fd : FuncData, (∀ (s : Shared) (v : Value), BindsTo s fd ⟨[v], []⟩ [("script", v)]) ∧ ∀ base : Heap, K.In base → base.Ns mainGlobals mg → FnOk l.prog w K mg base CX0 6 fa fd ["script"] (spLaw K 63) := by
  have e := hfa.symm.trans (PySem.W.mg_of X G a14)
  cases e
  have B : Blt mg := ⟨PySem.W.mg_none_of X G z_bool, PySem.W.mg_none_of X G z_int, PySem.W.mg_none_of X G z_isinstance, PySem.W.mg_none_of X G z_len, PySem.W.mg_none_of X G z_list, PySem.W.mg_none_of X G z_max, PySem.W.mg_none_of X G z_min, PySem.W.mg_none_of X G z_range, PySem.W.mg_none_of X G z_reversed, PySem.W.mg_none_of X G z_sorted, PySem.W.mg_none_of X G z_tuple⟩
  have F0 := fun_mk (st := s_reads) l0 c0 k0
  have b0 := F0.binds (ps := ["word", "path"]) fun _ _ _ _ _ _ us hl => match us, hl with | [_, _], _ => rfl
  have F1 := fun_mk (st := s__law_mix) l1 c1 k1
  have b1 := F1.binds (ps := ["number", "turn"]) fun _ _ _ _ _ _ us hl => match us, hl with | [_, _], _ => rfl
  have F2 := fun_mk (st := s__law_store) l2 c2 k2
  have b2 := F2.binds (ps := ["script"]) fun _ _ _ _ _ _ us hl => match us, hl with | [_], _ => rfl
  have F3 := fun_mk (st := s__law_load) l3 c3 k3
  have b3 := F3.binds (ps := ["store"]) fun _ _ _ _ _ _ us hl => match us, hl with | [_], _ => rfl
  have F4 := fun_mk (st := s__law_take) l4 c4 k4
  have b4 := F4.binds (ps := ["store", "many"]) fun _ _ _ _ _ _ us hl => match us, hl with | [_, _], _ => rfl
  have F5 := fun_mk (st := s__law_pick) l5 c5 k5
  have b5 := F5.binds (ps := ["store", "things"]) fun _ _ _ _ _ _ us hl => match us, hl with | [_, _], _ => rfl
  have F6 := fun_mk (st := s__law_some) l6 c6 k6
  have b6 := F6.binds (ps := ["store", "things", "many"]) fun _ _ _ _ _ _ us hl => match us, hl with | [_, _, _], _ => rfl
  have F7 := fun_mk (st := s__law_same) l7 c7 k7
  have b7 := F7.binds (ps := ["actual", "due"]) fun _ _ _ _ _ _ us hl => match us, hl with | [_, _], _ => rfl
  have F8 := fun_mk (st := s__law_letter) l8 c8 k8
  have b8 := F8.binds (ps := ["store"]) fun _ _ _ _ _ _ us hl => match us, hl with | [_], _ => rfl
  have F9 := fun_mk (st := s__law_read) l9 c9 k9
  have b9 := F9.binds (ps := ["word", "bundles"]) fun _ _ _ _ _ _ us hl => match us, hl with | [_, _], _ => rfl
  have F10 := fun_mk (st := s__law_part_of) l10 c10 k10
  have b10 := F10.binds (ps := ["store", "word", "most"]) fun _ _ _ _ _ _ us hl => match us, hl with | [_, _, _], _ => rfl
  have F11 := fun_mk (st := s__law_bundles) l11 c11 k11
  have b11 := F11.binds (ps := ["store", "word", "most"]) fun _ _ _ _ _ _ us hl => match us, hl with | [_, _, _], _ => rfl
  have F12 := fun_mk (st := s__law_path) l12 c12 k12
  have b12 := F12.binds (ps := ["store", "bundles"]) fun _ _ _ _ _ _ us hl => match us, hl with | [_, _], _ => rfl
  have F13 := fun_mk (st := s__law_tells) l13 c13 k13
  have b13 := F13.binds (ps := ["word", "path", "form"]) fun _ _ _ _ _ _ us hl => match us, hl with | [_, _, _], _ => rfl
  have F14 := fun_mk (st := s_law) l14 c14 k14
  refine ⟨PySem.W.fnOf "law" "law" (defArgs s_law) (defBody s_law) (defScope s_law) .none kV14 dc14 pm14 an14 cd14 ct14, fun s v => .of_eq rfl, fun base _ _ => ?_⟩
  have D_reads : DfX l.prog w K mg base 1 "reads" ["word", "path"] c_reads := ⟨_, _, ok_reads B F0, b0, PySem.W.mg_of X G a0, k0⟩
  have D__law_mix : DfX l.prog w K mg base 1 "_law_mix" ["number", "turn"] c__law_mix := ⟨_, _, ok__law_mix B F1, b1, PySem.W.mg_of X G a1, k1⟩
  have D__law_store : DfX l.prog w K mg base 1 "_law_store" ["script"] c__law_store := ⟨_, _, ok__law_store B F2, b2, PySem.W.mg_of X G a2, k2⟩
  have D__law_load : DfX l.prog w K mg base 1 "_law_load" ["store"] c__law_load := ⟨_, _, ok__law_load B F3, b3, PySem.W.mg_of X G a3, k3⟩
  have D__law_take : DfX l.prog w K mg base 2 "_law_take" ["store", "many"] c__law_take := ⟨_, _, ok__law_take B F4 D__law_load D__law_mix, b4, PySem.W.mg_of X G a4, k4⟩
  have D__law_pick : DfX l.prog w K mg base 3 "_law_pick" ["store", "things"] c__law_pick := ⟨_, _, ok__law_pick B F5 D__law_take, b5, PySem.W.mg_of X G a5, k5⟩
  have D__law_some : DfX l.prog w K mg base 3 "_law_some" ["store", "things", "many"] c__law_some := ⟨_, _, ok__law_some B F6 D__law_take, b6, PySem.W.mg_of X G a6, k6⟩
  have D__law_same : DfX l.prog w K mg base 1 "_law_same" ["actual", "due"] c__law_same := ⟨_, _, ok__law_same B F7, b7, PySem.W.mg_of X G a7, k7⟩
  have D__law_letter : DfX l.prog w K mg base 4 "_law_letter" ["store"] c__law_letter := ⟨_, _, ok__law_letter B F8 D__law_pick D__law_take, b8, PySem.W.mg_of X G a8, k8⟩
  have D__law_read : DfX l.prog w K mg base 1 "_law_read" ["word", "bundles"] c__law_read := ⟨_, _, ok__law_read B F9, b9, PySem.W.mg_of X G a9, k9⟩
  have D__law_part_of : DfX l.prog w K mg base 4 "_law_part_of" ["store", "word", "most"] c__law_part_of := ⟨_, _, ok__law_part_of B F10 D__law_some D__law_take, b10, PySem.W.mg_of X G a10, k10⟩
  have D__law_bundles : DfX l.prog w K mg base 5 "_law_bundles" ["store", "word", "most"] c__law_bundles := ⟨_, _, ok__law_bundles B F11 D__law_take D__law_letter D__law_part_of, b11, PySem.W.mg_of X G a11, k11⟩
  have D__law_path : DfX l.prog w K mg base 5 "_law_path" ["store", "bundles"] c__law_path := ⟨_, _, ok__law_path B F12 D__law_letter, b12, PySem.W.mg_of X G a12, k12⟩
  have D__law_tells : DfX l.prog w K mg base 2 "_law_tells" ["word", "path", "form"] c__law_tells := ⟨_, _, ok__law_tells B F13 D__law_same D__law_read D_reads, b13, PySem.W.mg_of X G a13, k13⟩
  exact law_sp lawc (ok_law B F14 D__law_store D__law_take D__law_letter D__law_pick D__law_path D__law_bundles D__law_tells)

end Law
open PySem PySem.W PyProof.Rows in
set_option maxRecDepth 100000 in
set_option maxHeartbeats 0 in
theorem PySem.Challenge.cw_struckalone_k11_paths_read_in_words_holds : PySem.Challenge.rw_struckalone_k11_paths_read_in_words.Holds := by
  w_on; o_law; k_head; (case hw => w_witness2)
  k_fill
  refine Dl.walk_law (n := 63) (k := 6) (l := PySem.Challenge.rw_struckalone_k11_paths_read_in_words) rfl (by decide) rfl ⟨rfl, by decide, by decide⟩ (fun w h Y => PySem.W.kIn_of Y) ?F
  case F =>
    intro w mg fa h KX G hmg
    refine' Law.all_mk KX G hmg ?a0 ?l0 ?c0 ?k0 ?a1 ?l1 ?c1 ?k1 ?a2 ?l2 ?c2 ?k2 ?a3 ?l3 ?c3 ?k3 ?a4 ?l4 ?c4 ?k4 ?a5 ?l5 ?c5 ?k5 ?a6 ?l6 ?c6 ?k6 ?a7 ?l7 ?c7 ?k7 ?a8 ?l8 ?c8 ?k8 ?a9 ?l9 ?c9 ?k9 ?a10 ?l10 ?c10 ?k10 ?a11 ?l11 ?c11 ?k11 ?a12 ?l12 ?c12 ?k12 ?a13 ?l13 ?c13 ?k13 ?a14 ?l14 ?c14 ?k14 ?z_bool ?z_int ?z_isinstance ?z_len ?z_list ?z_max ?z_min ?z_range ?z_reversed ?z_sorted ?z_tuple
    (case a0 => k_is)
    (case l0 => k_is)
    (case c0 => k_is)
    (case k0 => k_is)
    (case a1 => k_is)
    (case l1 => k_is)
    (case c1 => k_is)
    (case k1 => k_is)
    (case a2 => k_is)
    (case l2 => k_is)
    (case c2 => k_is)
    (case k2 => k_is)
    (case a3 => k_is)
    (case l3 => k_is)
    (case c3 => k_is)
    (case k3 => k_is)
    (case a4 => k_is)
    (case l4 => k_is)
    (case c4 => k_is)
    (case k4 => k_is)
    (case a5 => k_is)
    (case l5 => k_is)
    (case c5 => k_is)
    (case k5 => k_is)
    (case a6 => k_is)
    (case l6 => k_is)
    (case c6 => k_is)
    (case k6 => k_is)
    (case a7 => k_is)
    (case l7 => k_is)
    (case c7 => k_is)
    (case k7 => k_is)
    (case a8 => k_is)
    (case l8 => k_is)
    (case c8 => k_is)
    (case k8 => k_is)
    (case a9 => k_is)
    (case l9 => k_is)
    (case c9 => k_is)
    (case k9 => k_is)
    (case a10 => k_is)
    (case l10 => k_is)
    (case c10 => k_is)
    (case k10 => k_is)
    (case a11 => k_is)
    (case l11 => k_is)
    (case c11 => k_is)
    (case k11 => k_is)
    (case a12 => k_is)
    (case l12 => k_is)
    (case c12 => k_is)
    (case k12 => k_is)
    (case a13 => k_is)
    (case l13 => k_is)
    (case c13 => k_is)
    (case k13 => k_is)
    (case a14 => k_is)
    (case l14 => k_is)
    (case c14 => k_is)
    (case k14 => k_is)
    (case z_bool => k_is)
    (case z_int => k_is)
    (case z_isinstance => k_is)
    (case z_len => k_is)
    (case z_list => k_is)
    (case z_max => k_is)
    (case z_min => k_is)
    (case z_range => k_is)
    (case z_reversed => k_is)
    (case z_sorted => k_is)
    (case z_tuple => k_is)
#print axioms PySem.Challenge.cw_struckalone_k11_paths_read_in_words_holds
