import PyProof.Rows.All
import Wide.All
import OpenK.AllK
import Wide.FinOn
import HandS.ForMost
import HandS.Wide
import HandS.ForExc
import HandS.TryMany
import HandS.TryOnly
import HandS.IsInst
import HandS.Defaults
import HandS.ExcIs
import HandS.TupAny
import HandS.Comp
import HandS.Deep
import KE.SortData
import PySem.Challenge.RW_tilesglued_k18_matrices_that_keep_a_cell
set_option Elab.async false
set_option linter.all false
set_option maxRecDepth 100000
set_option maxHeartbeats 4000000
/-! A layer of plain data over the hand layer: values as data D, slots O (unset, data, an owned list), judgements EE (an expression gives data), EO (.. something owned), ET (a test), WS (a statement). -/
namespace TG
open PySem PySem.Spec PyProof.Rows L2

/-! ### data -/
inductive D where
  | non | bl (b : Bool) | int (i : Int) | str (s : Str) | ty (n : String) | tup (ds : List D) | lst (ds : List D)
/-- what a slot holds: nothing known, data, a list of its own -/
inductive O where
  | un | va (d : D) | ml (ds : List D) | rf (a : Addr)

mutual
inductive Rep (K : PySem.W.Frag) (G : Hp) : V → D → Prop
  | non : Rep K G .non .non
  | bl (b : Bool) : Rep K G (.bl b) (.bl b)
  | int (i : Int) : Rep K G (.int i) (.int i)
  | str (s : Str) : Rep K G (.str s) (.str s)
  | ty (n : String) : Rep K G (.ty n) (.ty n)
  | tup {a : Addr} {xs : List V} {ds : List D} : SqT K G a xs → RepL K G xs ds → Rep K G (.ref a) (.tup ds)
  | lst {a : Addr} {xs : List V} {ds : List D} : SqL K G a xs → RepL K G xs ds → Rep K G (.ref a) (.lst ds)
inductive RepL (K : PySem.W.Frag) (G : Hp) : List V → List D → Prop
  | nil : RepL K G [] []
  | cons {v : V} {vs : List V} {d : D} {ds : List D} : Rep K G v d → RepL K G vs ds → RepL K G (v :: vs) (d :: ds)
end

def Ex (H H' : Hp) : Prop := ∀ a o, H a = some o → H' a = some o
theorem Ex.refl (H : Hp) : Ex H H := fun _ _ h => h
theorem Ex.trans {H H1 H2 : Hp} (a : Ex H H1) (b : Ex H1 H2) : Ex H H2 := fun x o h => b x o (a x o h)
theorem Ex.back {H H' : Hp} (e : Ex H H') {a : Addr} (h : H' a = none) : H a = none := by
  cases q : H a with
  | none => rfl
  | some o => rw [e a o q] at h; cases h
theorem Ex.new {H : Hp} {p : Addr} {o : HO} (h : H p = none) : Ex H (upd H p o) := fun a u e => by
  rw [upd_ne (ne_of_none e h)]; exact e
theorem Ex.rd {H H' : Hp} {a : Addr} {u : HO} (e : Ex H H') (h : Rd H a u) : Rd H' a u := by
  rcases h with h | ⟨o, h⟩
  · exact .inl (e a _ h)
  · exact .inr ⟨o, e a _ h⟩
theorem Ex.l {K : PySem.W.Frag} {H H' : Hp} {a : Addr} {xs : List V} (e : Ex H H') (h : SqL K H a xs) : SqL K H' a xs := h.elim (fun h => .inl (e.rd h)) .inr
theorem Ex.t {K : PySem.W.Frag} {H H' : Hp} {a : Addr} {xs : List V} (e : Ex H H') (h : SqT K H a xs) : SqT K H' a xs := h.elim (fun h => .inl (e.rd h)) .inr
theorem Ex.upd2 {G H : Hp} (e : Ex G H) {p : Addr} {o : HO} : Ex (upd G p o) (upd H p o) := fun b u h => by
  by_cases hb : b = p
  · subst hb; rw [upd_same] at h ⊢; exact h
  · rw [upd_ne hb] at h ⊢; exact e b u h
theorem Ex.mut {H H' : Hp} {p : Addr} {o : HO} (e : Ex H H') (h : H p = none) : Ex H (upd H' p o) := fun a u ha => by
  rw [upd_ne (ne_of_none ha h)]; exact e a u ha

section
variable {K : PySem.W.Frag} {G G' : Hp}
mutual
theorem Rep.mono (e : Ex G G') : ∀ {d : D} {v : V}, Rep K G v d → Rep K G' v d
  | .non, _, .non => .non
  | .bl _, _, .bl b => .bl b
  | .int _, _, .int b => .int b
  | .str _, _, .str b => .str b
  | .ty _, _, .ty b => .ty b
  | .tup _, _, .tup h r => .tup (e.t h) (RepL.mono e r)
  | .lst _, _, .lst h r => .lst (e.l h) (RepL.mono e r)
theorem RepL.mono (e : Ex G G') : ∀ {ds : List D} {vs : List V}, RepL K G vs ds → RepL K G' vs ds
  | [], _, .nil => .nil
  | _ :: _, _, .cons h r => .cons (Rep.mono e h) (RepL.mono e r)
end
theorem RepL.length : ∀ {ds : List D} {vs : List V}, RepL K G vs ds → vs.length = ds.length
  | [], _, .nil => rfl
  | _ :: _, _, .cons _ r => congrArg (· + 1) (RepL.length r)
theorem RepL.get : ∀ {ds : List D} {vs : List V} {i : Nat} {d : D}, RepL K G vs ds → ds[i]? = some d → ∃ v, vs[i]? = some v ∧ Rep K G v d
  | [], _, _, _, .nil, e => by simp at e
  | _ :: _, _, 0, _, .cons h _, e => by simp at e; subst e; exact ⟨_, rfl, h⟩
  | _ :: _, _, i + 1, _, .cons _ r, e => by
    obtain ⟨v, h1, h2⟩ := RepL.get (i := i) r (by simpa using e)
    exact ⟨v, by simpa using h1, h2⟩
theorem RepL.getV : ∀ {ds : List D} {vs : List V} {i : Nat} {v : V}, RepL K G vs ds → vs[i]? = some v → ∃ d, ds[i]? = some d ∧ Rep K G v d
  | [], _, _, _, .nil, e => by simp at e
  | _ :: _, _, 0, _, .cons h _, e => by simp at e; subst e; exact ⟨_, rfl, h⟩
  | _ :: _, _, i + 1, _, .cons _ r, e => by
    obtain ⟨v, h1, h2⟩ := RepL.getV (i := i) r (by simpa using e)
    exact ⟨v, by simpa using h1, h2⟩
theorem RepL.append : ∀ {ds es : List D} {vs ws : List V}, RepL K G vs ds → RepL K G ws es → RepL K G (vs ++ ws) (ds ++ es)
  | [], _, _, _, .nil, s => s
  | _ :: _, _, _, _, .cons h r, s => .cons h (RepL.append r s)
theorem RepL.one {v : V} {d : D} (h : Rep K G v d) : RepL K G [v] [d] := .cons h .nil
theorem RepL.take : ∀ {ds : List D} {vs : List V} (n : Nat), RepL K G vs ds → RepL K G (vs.take n) (ds.take n)
  | _, _, 0, _ => .nil
  | [], _, _ + 1, .nil => .nil
  | _ :: _, _, n + 1, .cons h r => .cons h (RepL.take n r)
theorem RepL.drop : ∀ {ds : List D} {vs : List V} (n : Nat), RepL K G vs ds → RepL K G (vs.drop n) (ds.drop n)
  | _, _, 0, r => r
  | [], _, _ + 1, .nil => .nil
  | _ :: _, _, n + 1, .cons _ r => RepL.drop n r
theorem RepL.dropLast {ds : List D} {vs : List V} (r : RepL K G vs ds) : RepL K G vs.dropLast ds.dropLast := by
  rw [List.dropLast_eq_take, List.dropLast_eq_take, r.length]; exact r.take _
theorem RepL.set : ∀ {ds : List D} {vs : List V} {d : D} {v : V} (i : Nat), RepL K G vs ds → Rep K G v d → RepL K G (vs.set i v) (ds.set i d)
  | [], _, _, _, _, .nil, _ => .nil
  | _ :: _, _, _, _, 0, .cons _ r, h => .cons h r
  | _ :: _, _, _, _, i + 1, .cons q r, h => .cons q (RepL.set i r h)
end

/-! ### no lists within: nothing of it can be a list that is changed later -/
mutual
def D.noL : D → Bool
  | .lst _ => false
  | .tup ds => D.noLs ds
  | _ => true
def D.noLs : List D → Bool
  | [] => true
  | d :: r => D.noL d && D.noLs r
end
section
variable {K : PySem.W.Frag} {G : Hp} {a : Addr} {xs : List V}
def del (G : Hp) (a : Addr) : Hp := fun b => if b = a then none else G b
theorem del_same : del G a a = none := if_pos rfl
theorem del_ne {b : Addr} (h : b ≠ a) : del G a b = G b := if_neg h
theorem del_ex : Ex (del G a) G := fun b o e => by
  by_cases h : b = a
  · subst h; rw [del_same] at e; cases e
  · rw [del_ne h] at e; exact e
theorem ex_del {F : Hp} (e : Ex F G) (h : F a = none) : Ex F (del G a) := fun b o q => by
  rw [del_ne (ne_of_none q h)]; exact e b o q
theorem SqT.del {b : Addr} {ys : List V} (ha : G a = some (.lst xs)) (h : SqT K G b ys) : SqT K (del G a) b ys := by
  rcases h with (h | ⟨o, h⟩) | h
  · exact .inl (.inl (by rw [del_ne (ne_of h ha (by intro z; cases z))]; exact h))
  · exact .inl (.inr ⟨o, by rw [del_ne (ne_of h ha (by intro z; cases z))]; exact h⟩)
  · exact .inr h
mutual
theorem Rep.del (ha : G a = some (.lst xs)) : ∀ {d : D} {v : V}, Rep K G v d → d.noL = true → Rep K (del G a) v d
  | .non, _, .non, _ => .non
  | .bl _, _, .bl b, _ => .bl b
  | .int _, _, .int b, _ => .int b
  | .str _, _, .str b, _ => .str b
  | .ty _, _, .ty b, _ => .ty b
  | .tup _, _, .tup h r, n => .tup (SqT.del ha h) (RepL.del ha r n)
  | .lst _, _, .lst _ _, n => by exact absurd n (by simp [D.noL])
theorem RepL.del (ha : G a = some (.lst xs)) : ∀ {ds : List D} {vs : List V}, RepL K G vs ds → D.noLs ds = true → RepL K (del G a) vs ds
  | [], _, .nil, _ => .nil
  | d :: r, _, .cons h t, n => by
    have n' : (D.noL d && D.noLs r) = true := n
    rw [Bool.and_eq_true] at n'
    exact .cons (Rep.del ha h n'.1) (RepL.del ha t n'.2)
end
end

/-! ### the slots -/
/-- what stands for v: H0 the heap at the def's entry, G what never changes, H all -/
def OOk (K : PySem.W.Frag) (H0 G H : Hp) : O → V → Prop
  | .un, _ => True
  | .va d, v => Rep K G v d
  | .ml ds, v => ∃ a xs, v = .ref a ∧ H a = some (.lst xs) ∧ G a = none ∧ H0 a = none ∧ RepL K G xs ds
  | .rf a, v => v = .ref a
def O.own : O → Bool
  | .ml _ => true
  | _ => false
def Own (ρ : List O) (σ : L2.St) (i : Nat) (a : Addr) : Prop := (∃ o, ρ[i]? = some o ∧ o.own = true) ∧ σ[i]? = some (some (.ref a))
structure SOk (K : PySem.W.Frag) (E : Hp × Hp) (ρ : List O) (σ : L2.St) (G H : Hp) : Prop where
  g0 : Ex E.1 G
  gh : Ex G H
  h0 : Ex E.2 H
  fr : ∀ b, E.1 b = none → G b ≠ none → E.2 b = none
  len : ρ.length = σ.length
  at' : ∀ (i : Nat) (o : O), ρ[i]? = some o → o = .un ∨ ∃ v, σ[i]? = some (some v) ∧ OOk K E.2 G H o v
  apart : ∀ (i j : Nat) (a : Addr), Own ρ σ i a → Own ρ σ j a → i = j
/-- G, H grow -/
structure Grow (G H G' H' : Hp) : Prop where
  g : Ex G G'
  h : Ex H H'
  gh : Ex G' H'
  fr : ∀ b, G b = none → G' b ≠ none → H b = none

section
variable {K : PySem.W.Frag} {E : Hp × Hp} {ρ : List O} {σ : L2.St} {G H G' H' : Hp} {i : Nat} {a : Addr} {xs : List V} {ds : List D} {d : D} {v : V} {o : O}
theorem Grow.refl (e : Ex G H) : Grow G H G H := ⟨Ex.refl _, Ex.refl _, e, fun _ h q => absurd h q⟩
theorem Grow.trans {G2 H2 : Hp} (x : Grow G H G' H') (y : Grow G' H' G2 H2) : Grow G H G2 H2 := ⟨x.g.trans y.g, x.h.trans y.h, y.gh, fun b h q => by
  cases e : G' b with
  | none => exact x.h.back (y.fr b e q)
  | some o => exact x.fr b h (by rw [e]; simp)⟩
/-- a new object of the part that never changes -/
theorem Grow.new {p : Addr} {u : HO} (e : Ex G H) (hp : H p = none) : Grow G H (upd G p u) (upd H p u) :=
  ⟨Ex.new (e.back hp), Ex.new hp, e.upd2, fun b h q => by
    by_cases z : b = p
    · rw [z]; exact hp
    · rw [upd_ne z] at q; exact absurd h q⟩
/-- a new object that may change -/
theorem Grow.newH {p : Addr} {u : HO} (e : Ex G H) (hp : H p = none) : Grow G H G (upd H p u) :=
  ⟨Ex.refl _, Ex.new hp, e.mut (e.back hp), fun b h q => absurd h q⟩
theorem OOk.grow (x : Grow G H G' H') (q : OOk K E.2 G H o v) : OOk K E.2 G' H' o v := by
  cases o with
  | un => trivial
  | va d => exact Rep.mono x.g q
  | rf a => exact q
  | ml ds =>
    obtain ⟨a, xs, e, h1, h2, h3, r⟩ := q
    refine ⟨a, xs, e, x.h a _ h1, ?_, h3, r.mono x.g⟩
    cases z : G' a with
    | none => rfl
    | some u =>
      have := x.fr a h2 (by rw [z]; simp)
      rw [h1] at this; cases this
theorem SOk.grow (S : SOk K E ρ σ G H) (x : Grow G H G' H') : SOk K E ρ σ G' H' := by
  refine ⟨S.g0.trans x.g, x.gh, S.h0.trans x.h, fun b h q => ?_, S.len, fun i o e => ?_, S.apart⟩
  · cases e : G b with
    | none => exact S.h0.back (x.fr b e q)
    | some u => exact S.fr b h (by rw [e]; simp)
  · rcases S.at' i o e with h | ⟨v, h1, h2⟩
    · exact .inl h
    · exact .inr ⟨v, h1, h2.grow x⟩
theorem SOk.get (S : SOk K E ρ σ G H) (h : ρ[i]? = some (.va d)) : ∃ v, σ[i]? = some (some v) ∧ Rep K G v d := by
  rcases S.at' i _ h with h | h
  · cases h
  · exact h
theorem SOk.getL (S : SOk K E ρ σ G H) (h : ρ[i]? = some (.ml ds)) : ∃ a xs, σ[i]? = some (some (.ref a)) ∧ H a = some (.lst xs) ∧ G a = none ∧ E.2 a = none ∧ RepL K G xs ds := by
  rcases S.at' i _ h with h | ⟨v, h1, a, xs, e, h2, h3, h4, r⟩
  · cases h
  · subst e; exact ⟨a, xs, h1, h2, h3, h4, r⟩
theorem set_at {α : Type} {l : List α} {i j : Nat} {x y : α} (h : (l.set i x)[j]? = some y) : (i = j ∧ y = x ∧ i < l.length) ∨ (i ≠ j ∧ l[j]? = some y) := by
  rw [List.getElem?_set] at h
  by_cases e : i = j
  · rw [if_pos e] at h
    by_cases l' : i < l.length
    · rw [if_pos l'] at h; exact .inl ⟨e, (Option.some.inj h).symm, l'⟩
    · rw [if_neg l'] at h; cases h
  · rw [if_neg e] at h; exact .inr ⟨e, h⟩
/-- a slot is stored -/
theorem SOk.set (S : SOk K E ρ σ G H) (i : Nat) (q : OOk K E.2 G H o v) (n : o.own = true → ∀ (j : Nat) b, Own ρ σ j b → v ≠ .ref b) : SOk K E (ρ.set i o) (σ.set i (some v)) G H := by
  refine ⟨S.g0, S.gh, S.h0, S.fr, by rw [List.length_set, List.length_set]; exact S.len, fun j u e => ?_, fun j k b hj hk => ?_⟩
  · rcases set_at e with ⟨rfl, rfl, l⟩ | ⟨ne, e⟩
    · refine .inr ⟨v, ?_, q⟩
      rw [List.getElem?_set_self (by rw [← S.len]; exact l)]
    · rcases S.at' j u e with h | ⟨v', h1, h2⟩
      · exact .inl h
      · exact .inr ⟨v', by rw [List.getElem?_set_ne ne]; exact h1, h2⟩
  · obtain ⟨⟨oj, ej, pj⟩, sj⟩ := hj
    obtain ⟨⟨ok, ek, pk⟩, sk⟩ := hk
    rcases set_at ej with ⟨hj, hoj, lj⟩ | ⟨nj, ej'⟩ <;> rcases set_at ek with ⟨hk, hok, lk⟩ | ⟨nk, ek'⟩
    · exact hj.symm.trans hk
    · subst hj; subst hoj
      rw [List.getElem?_set_self (by rw [← S.len]; exact lj)] at sj
      rw [List.getElem?_set_ne nk] at sk
      exact absurd (Option.some.inj (Option.some.inj sj)) (n pj k b ⟨⟨ok, ek', pk⟩, sk⟩)
    · subst hk; subst hok
      rw [List.getElem?_set_self (by rw [← S.len]; exact lk)] at sk
      rw [List.getElem?_set_ne nj] at sj
      exact absurd (Option.some.inj (Option.some.inj sk)) (n pk j b ⟨⟨oj, ej', pj⟩, sj⟩)
    · rw [List.getElem?_set_ne nj] at sj
      rw [List.getElem?_set_ne nk] at sk
      exact S.apart j k b ⟨⟨oj, ej', pj⟩, sj⟩ ⟨⟨ok, ek', pk⟩, sk⟩
theorem SOk.own_lst (S : SOk K E ρ σ G H) (h : Own ρ σ i a) : ∃ ds xs, ρ[i]? = some (.ml ds) ∧ H a = some (.lst xs) ∧ G a = none ∧ E.2 a = none ∧ RepL K G xs ds := by
  obtain ⟨⟨o, e, p⟩, s⟩ := h
  cases o with
  | ml ds =>
    obtain ⟨b, xs, e1, h1, h2, h3, r⟩ := S.getL e
    rw [s] at e1; cases e1
    exact ⟨ds, xs, e, h1, h2, h3, r⟩
  | un => exact absurd p Bool.false_ne_true
  | va d => exact absurd p Bool.false_ne_true
  | rf a => exact absurd p Bool.false_ne_true
/-- slots are forgotten -/
inductive Le : List O → List O → Prop
  | nil : Le [] []
  | un {o : O} {ρ ρ' : List O} : Le ρ ρ' → Le (o :: ρ) (.un :: ρ')
  | eq {o : O} {ρ ρ' : List O} : Le ρ ρ' → Le (o :: ρ) (o :: ρ')
theorem Le.at {ρ ρ' : List O} (l : Le ρ ρ') : ∀ {i : Nat} {o : O}, ρ'[i]? = some o → o = .un ∨ ρ[i]? = some o := by
  induction l with
  | nil => intro i o h; simp at h
  | un _ ih =>
    intro i o h
    cases i with
    | zero => simp at h; exact .inl h.symm
    | succ i => simpa using ih (by simpa using h)
  | eq _ ih =>
    intro i o h
    cases i with
    | zero => exact .inr h
    | succ i => simpa using ih (by simpa using h)
theorem Le.len {ρ ρ' : List O} (l : Le ρ ρ') : ρ.length = ρ'.length := by
  induction l with
  | nil => rfl
  | un _ ih => simp [ih]
  | eq _ ih => simp [ih]
theorem Le.refl : ∀ ρ : List O, Le ρ ρ
  | [] => .nil
  | _ :: r => .eq (Le.refl r)
theorem SOk.le {ρ' : List O} (S : SOk K E ρ σ G H) (l : Le ρ ρ') : SOk K E ρ' σ G H := by
  refine ⟨S.g0, S.gh, S.h0, S.fr, by rw [← l.len]; exact S.len, fun i o e => ?_, fun i j a hi hj => ?_⟩
  · rcases l.at e with h | h
    · exact .inl h
    · exact S.at' i o h
  · obtain ⟨⟨oi, ei, pi⟩, si⟩ := hi
    obtain ⟨⟨oj, ej, pj⟩, sj⟩ := hj
    rcases l.at ei with h | h
    · subst h; exact absurd pi Bool.false_ne_true
    rcases l.at ej with h' | h'
    · subst h'; exact absurd pj Bool.false_ne_true
    exact S.apart i j a ⟨⟨oi, h, pi⟩, si⟩ ⟨⟨oj, h', pj⟩, sj⟩
end

/-! ### exceptions: what the context takes -/
/-- whatever X takes -/
def WA (X : Cx) : WX := fun cls d σ H => ∃ W : WX, Takes X W ∧ W cls d σ H
theorem takes_acc {X : Cx} : Takes X (WA X) := fun u s' ⟨a, B, sI, pins, σ, H, cls, d, e, I, nb, up, sky, na, os, ag, W, t, w⟩ => t u s' ⟨a, B, sI, pins, σ, H, cls, d, e, I, nb, up, sky, na, os, ag, w⟩
/-- exceptions wished: by the class's name, the slots -/
abbrev Exs := Str → List O → Prop
/-- no exception leaves -/
abbrev noX : Exs := fun _ _ => False
/-- the slots and the heaps, and that the wished exceptions are taken -/
structure SOx (X : Cx) (ex : Exs) (E : Hp × Hp) (ρ : List O) (σ : L2.St) (G H : Hp) : Prop extends SOk X.K E ρ σ G H where
  xo : ∀ n ρ', ex n ρ' → ∀ C, X.mg n = some (.ref C) → ∀ σ' G' H', SOk X.K E ρ' σ' G' H' → Ex G G' → WA X (.ref C) none σ' H'
section
variable {X : Cx} {ex : Exs} {E : Hp × Hp} {ρ ρ' : List O} {σ σ' : L2.St} {G H G' H' : Hp}
theorem SOx.at (S : SOx X ex E ρ σ G H) (S' : SOk X.K E ρ' σ' G' H') (e : Ex G G') : SOx X ex E ρ' σ' G' H' := ⟨S', fun n ρ1 h C hm σ1 G1 H1 S1 e1 => S.xo n ρ1 h C hm σ1 G1 H1 S1 (e.trans e1)⟩
theorem SOx.grow (S : SOx X ex E ρ σ G H) (x : Grow G H G' H') : SOx X ex E ρ σ G' H' := S.at (S.toSOk.grow x) x.g
theorem SOx.le (S : SOx X ex E ρ σ G H) (l : Le ρ ρ') : SOx X ex E ρ' σ G H := S.at (S.toSOk.le l) (Ex.refl _)
instance : CoeOut (SOx X ex E ρ σ G H) (SOk X.K E ρ σ G H) := ⟨SOx.toSOk⟩
/-- no exception -/
theorem SOk.nox (S : SOk X.K E ρ σ G H) : SOx X noX E ρ σ G H := ⟨S, fun _ _ h => h.elim⟩
end
end TG
/-! Judgements over plain data and their rules: expressions. -/
namespace TG
open PySem PySem.Spec PyProof.Rows L2

/-! ### a piece of syntax's own meaning as a reading -/
section
variable {X : Cx}
def tSem (X : Cx) (e : Expr) : TE := fun σ H Q => ∀ (pins : List (Addr × Obj)) (s : Shared), Inv X pins σ H s → wpAny (model X.prog X.w) X.A (eval e X.env) (EP X pins σ Q) X.xe s
def tSemT (X : Cx) (e : Expr) : TT := fun σ H Q => ∀ (pins : List (Addr × Obj)) (s : Shared), Inv X pins σ H s → wpAny (model X.prog X.w) X.A (isTrue e X.env (eval e X.env)) (TP X pins σ Q) X.xe s
def tSemW (X : Cx) (e : Expr) : TT := fun σ H Q => ∀ (whole : Sem Value) (pins : List (Addr × Obj)) (s : Shared), Inv X pins σ H s → wpAny (model X.prog X.w) X.A (isTrue e X.env whole) (TP X pins σ Q) X.xe s
def tSemA (X : Cx) (es : List Expr) : TA := fun σ H Q => ∀ (pos : Pos) (pins : List (Addr × Obj)) (s : Shared), Inv X pins σ H s → wpAny (model X.prog X.w) X.A (spliced (backTo pos (starEach es X.env))) (AP X pins σ Q) X.xe s
def tSemS (X : Cx) (st : Stmt) : TS := fun D σ H => ∀ (pins : List (Addr × Obj)) (s : Shared), Inv X pins σ H s → wpAny (model X.prog X.w) X.A (exec st X.env) (SP X pins D) X.xe s
def tSemSs (X : Cx) (st : List Stmt) : TS := fun D σ H => ∀ (pins : List (Addr × Obj)) (s : Shared), Inv X pins σ H s → wpAny (model X.prog X.w) X.A (execs st X.env) (SP X pins D) X.xe s
theorem sem_pe {e : Expr} : PE X e (tSem X e) := ⟨fun pins s _ _ _ I h => h pins s I⟩
theorem sem_pt {e : Expr} : PT X e (tSemT X e) := ⟨fun pins s _ _ _ I h => h pins s I⟩
theorem sem_pw {e : Expr} : PW X e (tSemW X e) := ⟨fun wh pins s _ _ _ I h => h wh pins s I⟩
theorem sem_pa {es : List Expr} : PA X es (tSemA X es) := ⟨fun pos pins s _ _ _ I h => h pos pins s I⟩
theorem sem_ps {st : Stmt} : PS X st (tSemS X st) := ⟨fun pins s _ _ _ I h => h pins s I⟩
theorem sem_pss {st : List Stmt} : PSs X st (tSemSs X st) := ⟨fun pins s _ _ _ I h => h pins s I⟩
theorem of_pe {e : Expr} {t : TE} (h : PE X e t) {σ : L2.St} {H : Hp} {Q : VK} (q : t σ H Q) : tSem X e σ H Q := fun pins s I => h.run pins s σ H Q I q
theorem of_pt {e : Expr} {t : TT} (h : PT X e t) {σ : L2.St} {H : Hp} {Q : Bool → Hp → Prop} (q : t σ H Q) : tSemT X e σ H Q := fun pins s I => h.run pins s σ H Q I q
theorem of_pw {e : Expr} {t : TT} (h : PW X e t) {σ : L2.St} {H : Hp} {Q : Bool → Hp → Prop} (q : t σ H Q) : tSemW X e σ H Q := fun wh pins s I => h.run wh pins s σ H Q I q
theorem of_pa {es : List Expr} {t : TA} (h : PA X es t) {σ : L2.St} {H : Hp} {Q : List V → Hp → Prop} (q : t σ H Q) : tSemA X es σ H Q := fun pos pins s I => h.run pos pins s σ H Q I q
theorem of_ps {st : Stmt} {t : TS} (h : PS X st t) {σ : L2.St} {H : Hp} {D : Ends} (q : t D σ H) : tSemS X st D σ H := fun pins s I => h.run pins s σ H D I q
theorem of_pss {st : List Stmt} {t : TS} (h : PSs X st t) {σ : L2.St} {H : Hp} {D : Ends} (q : t D σ H) : tSemSs X st D σ H := fun pins s I => h.run pins s σ H D I q
theorem tSem_mono {e : Expr} {σ : L2.St} {H : Hp} {Q Q' : VK} (h : tSem X e σ H Q) (k : ∀ v H', Q v H' → Q' v H') : tSem X e σ H Q' :=
  fun pins s I => thn (h pins s I) fun _ _ ⟨v, H', I', r, q⟩ => ⟨v, H', I', r, k v H' q⟩
theorem tSemT_mono {e : Expr} {σ : L2.St} {H : Hp} {Q Q' : Bool → Hp → Prop} (h : tSemT X e σ H Q) (k : ∀ v H', Q v H' → Q' v H') : tSemT X e σ H Q' :=
  fun pins s I => thn (h pins s I) fun _ _ ⟨H', I', q⟩ => ⟨H', I', k _ H' q⟩
theorem tSemW_mono {e : Expr} {σ : L2.St} {H : Hp} {Q Q' : Bool → Hp → Prop} (h : tSemW X e σ H Q) (k : ∀ v H', Q v H' → Q' v H') : tSemW X e σ H Q' :=
  fun wh pins s I => thn (h wh pins s I) fun _ _ ⟨H', I', q⟩ => ⟨H', I', k _ H' q⟩
theorem tSemA_mono {es : List Expr} {σ : L2.St} {H : Hp} {Q Q' : List V → Hp → Prop} (h : tSemA X es σ H Q) (k : ∀ v H', Q v H' → Q' v H') : tSemA X es σ H Q' :=
  fun pos pins s I => thn (h pos pins s I) fun _ _ ⟨v, H', I', r, q⟩ => ⟨v, H', I', r, k v H' q⟩

/-! ### the judgements -/
/-- e gives something of P, owned or data; nothing else changes -/
structure EO (X : Cx) (ex : Exs) (e : Expr) (ρ : List O) (P : O → Prop) : Prop where
  run : ∀ (E : Hp × Hp) (σ : L2.St) (G H : Hp), SOx X ex E ρ σ G H →
  tSem X e σ H fun v H' => ∃ o G', Grow G H G' H' ∧ OOk X.K H G' H' o v ∧ P o
instance {X : Cx} {ex : Exs} {e : Expr} {ρ : List O} {P : O → Prop} : CoeFun (EO X ex e ρ P) (fun _ => ∀ (E : Hp × Hp) (σ : L2.St) (G H : Hp), SOx X ex E ρ σ G H →   tSem X e σ H fun v H' => ∃ o G', Grow G H G' H' ∧ OOk X.K H G' H' o v ∧ P o) := ⟨EO.run⟩

/-- e gives the data d -/
structure EE (X : Cx) (ex : Exs) (e : Expr) (ρ : List O) (d : D) : Prop where
  run : ∀ (E : Hp × Hp) (σ : L2.St) (G H : Hp), SOx X ex E ρ σ G H →
  tSem X e σ H fun v H' => ∃ G', Grow G H G' H' ∧ Rep X.K G' v d
instance {X : Cx} {ex : Exs} {e : Expr} {ρ : List O} {d : D} : CoeFun (EE X ex e ρ d) (fun _ => ∀ (E : Hp × Hp) (σ : L2.St) (G H : Hp), SOx X ex E ρ σ G H →   tSem X e σ H fun v H' => ∃ G', Grow G H G' H' ∧ Rep X.K G' v d) := ⟨EE.run⟩

structure ET (X : Cx) (ex : Exs) (e : Expr) (ρ : List O) (b : Bool) : Prop where
  run : ∀ (E : Hp × Hp) (σ : L2.St) (G H : Hp), SOx X ex E ρ σ G H →
  tSemT X e σ H fun c H' => c = b ∧ ∃ G', Grow G H G' H'
instance {X : Cx} {ex : Exs} {e : Expr} {ρ : List O} {b : Bool} : CoeFun (ET X ex e ρ b) (fun _ => ∀ (E : Hp × Hp) (σ : L2.St) (G H : Hp), SOx X ex E ρ σ G H →   tSemT X e σ H fun c H' => c = b ∧ ∃ G', Grow G H G' H') := ⟨ET.run⟩

structure EW (X : Cx) (ex : Exs) (e : Expr) (ρ : List O) (b : Bool) : Prop where
  run : ∀ (E : Hp × Hp) (σ : L2.St) (G H : Hp), SOx X ex E ρ σ G H →
  tSemW X e σ H fun c H' => c = b ∧ ∃ G', Grow G H G' H'
instance {X : Cx} {ex : Exs} {e : Expr} {ρ : List O} {b : Bool} : CoeFun (EW X ex e ρ b) (fun _ => ∀ (E : Hp × Hp) (σ : L2.St) (G H : Hp), SOx X ex E ρ σ G H →   tSemW X e σ H fun c H' => c = b ∧ ∃ G', Grow G H G' H') := ⟨EW.run⟩

structure EA (X : Cx) (ex : Exs) (es : List Expr) (ρ : List O) (ds : List D) : Prop where
  run : ∀ (E : Hp × Hp) (σ : L2.St) (G H : Hp), SOx X ex E ρ σ G H →
  tSemA X es σ H fun vs H' => ∃ G', Grow G H G' H' ∧ RepL X.K G' vs ds
instance {X : Cx} {ex : Exs} {es : List Expr} {ρ : List O} {ds : List D} : CoeFun (EA X ex es ρ ds) (fun _ => ∀ (E : Hp × Hp) (σ : L2.St) (G H : Hp), SOx X ex E ρ σ G H →   tSemA X es σ H fun vs H' => ∃ G', Grow G H G' H' ∧ RepL X.K G' vs ds) := ⟨EA.run⟩

variable {ex : Exs} {ρ : List O} {e a b c : Expr} {es : List Expr} {d d1 d2 : D} {ds : List D} {pos : Pos} {i j : Int} {x : Str}
theorem EO.mono {P P' : O → Prop} (h : EO X ex e ρ P) (k : ∀ o, P o → P' o) : EO X ex e ρ P' := ⟨fun E σ G H S =>
  tSem_mono (h E σ G H S) fun _ _ ⟨o, G', g, r, p⟩ => ⟨o, G', g, r, k o p⟩⟩
theorem EE.eo (h : EE X ex e ρ d) : EO X ex e ρ (fun o => o = .va d) := ⟨fun E σ G H S =>
  tSem_mono (h E σ G H S) fun _ _ ⟨G', g, r⟩ => ⟨.va d, G', g, r, rfl⟩⟩
theorem EE.is (h : EE X ex e ρ d1) (q : d1 = d2) : EE X ex e ρ d2 := q ▸ h
theorem ET.is {b1 b2 : Bool} (h : ET X ex e ρ b1) (q : b1 = b2) : ET X ex e ρ b2 := q ▸ h
/-- an owned value becomes data -/
theorem OOk.freeze {K : PySem.W.Frag} {H0 G H : Hp} {o : O} {v : V} (e : Ex G H) (q : OOk K H0 G H o v) (P : D → Prop) (hva : ∀ d, o = .va d → P d) (hml : ∀ ds, o = .ml ds → P (.lst ds)) (hn : o ≠ .un ∧ ∀ a, o ≠ .rf a) :
    ∃ d G', Ex G G' ∧ Ex G' H ∧ (∀ b, G b = none → G' b ≠ none → H0 b = none) ∧ Rep K G' v d ∧ P d := by
  cases o with
  | un => exact absurd rfl hn.1
  | rf a => exact absurd rfl (hn.2 a)
  | va d => exact ⟨d, G, Ex.refl _, e, fun b h q => absurd h q, q, hva d rfl⟩
  | ml ds =>
    obtain ⟨a, xs, rfl, h1, h2, h3, r⟩ := q
    refine ⟨.lst ds, upd G a (.lst xs), Ex.new h2, fun b u h => ?_, fun b h q => ?_, .lst (.inl (.inl upd_same)) (r.mono (Ex.new h2)), hml ds rfl⟩
    · by_cases z : b = a
      · subst z; rw [upd_same] at h; cases h; exact h1
      · rw [upd_ne z] at h; exact e b u h
    · by_cases z : b = a
      · subst z; exact h3
      · rw [upd_ne z] at q; exact absurd h q
theorem EO.ee {P : O → Prop} (h : EO X ex e ρ P) (hd : ∀ o, P o → o = .va d ∨ ∃ ds, o = .ml ds ∧ d = .lst ds) : EE X ex e ρ d := ⟨fun E σ G H S =>
  tSem_mono (h E σ G H S) fun v H' ⟨o, G', g, r, p⟩ => by
    have hn : o ≠ .un ∧ ∀ a, o ≠ .rf a := ⟨fun z => by rcases hd o p with h | ⟨_, h, _⟩ <;> (rw [z] at h; cases h), fun a z => by rcases hd o p with h | ⟨_, h, _⟩ <;> (rw [z] at h; cases h)⟩
    obtain ⟨d', G2, e1, e2, f, r', q⟩ := OOk.freeze g.gh r (fun x => x = d) (fun x hx => by
      rcases hd o p with h | ⟨_, h, _⟩ <;> rw [hx] at h <;> cases h
      rfl) (fun x hx => by
      rcases hd o p with h | ⟨_, h, h2⟩ <;> rw [hx] at h <;> cases h
      exact h2.symm) hn
    subst q
    refine ⟨G2, ⟨g.g.trans e1, g.h, e2, fun b h q => ?_⟩, r'⟩
    cases z : G' b with
    | none => exact f b z q
    | some u => exact g.fr b h (by rw [z]; simp)⟩
theorem ee_lst (h : EO X ex e ρ (fun o => o = .ml ds)) : EE X ex e ρ (.lst ds) := h.ee fun o p => .inr ⟨ds, p, rfl⟩
theorem ee_va (h : EO X ex e ρ (fun o => o = .va d)) : EE X ex e ρ d := h.ee fun o p => .inl p

/-! ### names, constants -/
theorem ee_var (i : Nat) (hr : ρ[i]? = some (.va d)) (hN : X.N[i]? = some x := by rfl) (hv : Vis X.env.scope x := by first | exact Or.inl rfl | exact Or.inr (Or.inl rfl) | exact Or.inr (Or.inr rfl)) (hd : (x == ("__debug__" : Str)) = false := by decide)
    (hcd : (x == ("__classdict__" : Str)) = false := by decide) : EE X ex (.Name x pos) ρ d := ⟨fun E σ G H S => by
  obtain ⟨v, h1, r⟩ := S.get hr
  exact of_pe (pe_var hN hv hd hcd) ⟨v, h1, G, .refl S.gh, r⟩⟩
theorem ee_int {k} : EE X ex (.Constant (.int i) k pos) ρ (.int i) := ⟨fun E σ G H S => of_pe pe_int ⟨G, .refl S.gh, .int i⟩⟩
theorem ee_bl {t : Bool} {k} : EE X ex (.Constant (.bool t) k pos) ρ (.bl t) := ⟨fun E σ G H S => of_pe pe_bl ⟨G, .refl S.gh, .bl t⟩⟩
theorem ee_non {k} : EE X ex (.Constant .none k pos) ρ .non := ⟨fun E σ G H S => of_pe pe_non ⟨G, .refl S.gh, .non⟩⟩
theorem ee_str {t : Str} {k} : EE X ex (.Constant (.str t) k pos) ρ (.str t) := ⟨fun E σ G H S => of_pe pe_str ⟨G, .refl S.gh, .str t⟩⟩
/-- a constant of the module -/
theorem ee_glob {v : V} {u : Value} (hg : Gl X x) (hm : X.mg x = some u) (r : RelV v u) (hr : ∀ G, Rep X.K G v d) (hd : (x == ("__debug__" : Str)) = false := by decide) : EE X ex (.Name x pos) ρ d := ⟨fun E σ G H S =>
  of_pe (pe_glob hg hm r hd) ⟨G, .refl S.gh, hr G⟩⟩
/-- a built-in class as a value -/
theorem ee_ty {n : String} (hg : Gl X x) (hm : X.mg x = none) (hv : bootBuiltins x = some (.type n)) (hn : x ≠ "__name__" := by decide) (hd : (x == ("__debug__" : Str)) = false := by decide) : EE X ex (.Name x pos) ρ (.ty n) := ⟨fun E σ G H S =>
  of_pe (pe_bltn (v := .ty n) hg hm hv rfl hn hd) ⟨G, .refl S.gh, .ty n⟩⟩

/-! ### operators -/
/-- a two-place operation on data -/
def BinD (X : Cx) (r : R2) (d1 d2 d : D) : Prop := ∀ (G H : Hp) (v w : V) (Q : VK), Ex G H → Rep X.K G v d1 → Rep X.K G w d2 → (∀ u G' H', Grow G H G' H' → Rep X.K G' u d → Q u H') → r v w H Q
theorem ee_bin {op : Operator} {r : R2} (ho : OpR X (binaryOp op) r) (hr : BinD X r d1 d2 d) (ha : EE X ex a ρ d1) (hb : EE X ex b ρ d2) : EE X ex (.BinOp a op b pos) ρ d := ⟨fun E σ G H S =>
  of_pe (pe_op ho sem_pe sem_pe) (tSem_mono (ha E σ G H S) fun v H1 ⟨G1, g1, r1⟩ => tSem_mono (hb E σ G1 H1 (S.grow g1)) fun w H2 ⟨G2, g2, r2⟩ =>
    hr G2 H2 v w _ g2.gh (r1.mono g2.g) r2 fun u G3 H3 g3 r3 => ⟨G3, (g1.trans g2).trans g3, r3⟩)⟩
theorem ee_cmp {op : CmpOp} {r : R2} (ho : OpR X (compareOp op) r) (hr : BinD X r d1 d2 d) (ha : EE X ex a ρ d1) (hb : EE X ex b ρ d2) (hm : behindInMarks op b = false) : EE X ex (.Compare a [op] [b] pos) ρ d := ⟨fun E σ G H S =>
  of_pe (pe_cmpR ho sem_pe sem_pe hm) (tSem_mono (ha E σ G H S) fun v H1 ⟨G1, g1, r1⟩ => tSem_mono (hb E σ G1 H1 (S.grow g1)) fun w H2 ⟨G2, g2, r2⟩ =>
    hr G2 H2 v w _ g2.gh (r1.mono g2.g) r2 fun u G3 H3 g3 r3 => ⟨G3, (g1.trans g2).trans g3, r3⟩)⟩
theorem et_cmp {op : CmpOp} {r : R2} {t : Bool} (ho : OpR X (compareOp op) r) (hr : BinD X r d1 d2 (.bl t)) (ha : EE X ex a ρ d1) (hb : EE X ex b ρ d2) (hm : behindInMarks op b = false) : ET X ex (.Compare a [op] [b] pos) ρ t := ⟨fun E σ G H S =>
  of_pt (pt_cmpR ho sem_pe sem_pe hm) (tSem_mono (ha E σ G H S) fun v H1 ⟨G1, g1, r1⟩ => tSem_mono (hb E σ G1 H1 (S.grow g1)) fun w H2 ⟨G2, g2, r2⟩ =>
    hr G2 H2 v w _ g2.gh (r1.mono g2.g) r2 fun u G3 H3 g3 r3 => by cases r3; exact ⟨t, rfl, rfl, G3, (g1.trans g2).trans g3⟩)⟩
theorem bin_I0 {f : Int → Int → V} {g : Int → Int → D} (h : ∀ G i j, Rep X.K G (f i j) (g i j)) : BinD X (rI0 f) (.int i) (.int j) (g i j) := fun G H v w Q e r1 r2 q => by
  cases r1; cases r2
  exact ⟨i, j, rfl, rfl, q _ G H (.refl e) (h G i j)⟩
theorem bin_I {C : Int → Int → Prop} {f : Int → Int → V} {g : Int → Int → D} (hc : C i j) (h : ∀ G i j, Rep X.K G (f i j) (g i j)) : BinD X (rI C f) (.int i) (.int j) (g i j) := fun G H v w Q e r1 r2 q => by
  cases r1; cases r2
  exact ⟨i, j, rfl, rfl, hc, q _ G H (.refl e) (h G i j)⟩
theorem ee_add (ha : EE X ex a ρ (.int i)) (hb : EE X ex b ρ (.int j)) : EE X ex (.BinOp a .Add b pos) ρ (.int (i + j)) := ee_bin op_add (bin_I0 (g := fun i j => .int (i + j)) fun _ _ _ => .int _) ha hb
theorem ee_sub (ha : EE X ex a ρ (.int i)) (hb : EE X ex b ρ (.int j)) : EE X ex (.BinOp a .Sub b pos) ρ (.int (i - j)) := ee_bin op_sub (bin_I0 (g := fun i j => .int (i - j)) fun _ _ _ => .int _) ha hb
/-- * where the factors together are below a million bits -/
theorem ee_mul (ha : EE X ex a ρ (.int i)) (hb : EE X ex b ρ (.int j)) (hc : CMulW i j) : EE X ex (.BinOp a .Mult b pos) ρ (.int (i * j)) := ee_bin op_mulW (bin_I (g := fun i j => .int (i * j)) hc fun _ _ _ => .int _) ha hb
/-- // by any divisor but 0 below 2 ^ 9000 -/
def CDivV (_ j : Int) : Prop := j ≠ 0 ∧ j.natAbs.log2 < 9000
theorem op_fdivV : OpR X (binaryOp .FloorDiv) (rI CDivV fun i j => .int (i.fdiv j)) := opI fun i j _ _ _ _ _ hc q => floordiv_int hc.1 q (.inl (PyProof.noPylong_of_log2 hc.2))
theorem ee_fdiv (ha : EE X ex a ρ (.int i)) (hb : EE X ex b ρ (.int j)) (hc : CDivV i j) : EE X ex (.BinOp a .FloorDiv b pos) ρ (.int (i.fdiv j)) := ee_bin op_fdivV (bin_I (g := fun i j => .int (i.fdiv j)) hc fun _ _ _ => .int _) ha hb
/-- // by a positive divisor -/
theorem ee_div (ha : EE X ex a ρ (.int i)) (hb : EE X ex b ρ (.int j)) (hc : CDivW i j) : EE X ex (.BinOp a .FloorDiv b pos) ρ (.int (i / j)) := ee_bin op_fdivW (bin_I (g := fun i j => .int (i / j)) hc fun _ _ _ => .int _) ha hb
theorem ee_mod (ha : EE X ex a ρ (.int i)) (hb : EE X ex b ρ (.int j)) (hc : 0 < j) : EE X ex (.BinOp a .Mod b pos) ρ (.int (i % j)) := ee_bin op_mod (bin_I (C := fun _ j => 0 < j) (g := fun i j => .int (i % j)) hc fun _ _ _ => .int _) ha hb
theorem ee_pow (ha : EE X ex a ρ (.int i)) (hb : EE X ex b ρ (.int j)) (hc : CPow i j) : EE X ex (.BinOp a .Pow b pos) ρ (.int (i ^ j.toNat)) := ee_bin op_pow (bin_I (g := fun i j => .int (i ^ j.toNat)) hc fun _ _ _ => .int _) ha hb
theorem ee_neg (ha : EE X ex a ρ (.int i)) : EE X ex (.UnaryOp .USub a pos) ρ (.int (-i)) := ⟨fun E σ G H S =>
  of_pe (pe_un un_neg sem_pe) (tSem_mono (ha E σ G H S) fun v H1 ⟨G1, g1, r1⟩ => by cases r1; exact ⟨i, rfl, G1, g1, .int _⟩)⟩

/-! ### comparisons of ints -/
theorem ee_lt (ha : EE X ex a ρ (.int i)) (hb : EE X ex b ρ (.int j)) : EE X ex (.Compare a [.Lt] [b] pos) ρ (.bl (decide (i < j))) := ee_cmp op_lt (bin_I0 (g := fun i j => .bl (decide (i < j))) fun _ _ _ => .bl _) ha hb (nomark _)
theorem ee_le (ha : EE X ex a ρ (.int i)) (hb : EE X ex b ρ (.int j)) : EE X ex (.Compare a [.LtE] [b] pos) ρ (.bl (decide (i ≤ j))) := ee_cmp op_le (bin_I0 (g := fun i j => .bl (decide (i ≤ j))) fun _ _ _ => .bl _) ha hb (nomark _)
theorem ee_gt (ha : EE X ex a ρ (.int i)) (hb : EE X ex b ρ (.int j)) : EE X ex (.Compare a [.Gt] [b] pos) ρ (.bl (decide (j < i))) := ee_cmp op_gt (bin_I0 (g := fun i j => .bl (decide (j < i))) fun _ _ _ => .bl _) ha hb (nomark _)
theorem ee_ge (ha : EE X ex a ρ (.int i)) (hb : EE X ex b ρ (.int j)) : EE X ex (.Compare a [.GtE] [b] pos) ρ (.bl (decide (j ≤ i))) := ee_cmp op_ge (bin_I0 (g := fun i j => .bl (decide (j ≤ i))) fun _ _ _ => .bl _) ha hb (nomark _)
theorem et_lt (ha : EE X ex a ρ (.int i)) (hb : EE X ex b ρ (.int j)) : ET X ex (.Compare a [.Lt] [b] pos) ρ (decide (i < j)) := et_cmp op_lt (bin_I0 (g := fun i j => .bl (decide (i < j))) fun _ _ _ => .bl _) ha hb (nomark _)
theorem et_le (ha : EE X ex a ρ (.int i)) (hb : EE X ex b ρ (.int j)) : ET X ex (.Compare a [.LtE] [b] pos) ρ (decide (i ≤ j)) := et_cmp op_le (bin_I0 (g := fun i j => .bl (decide (i ≤ j))) fun _ _ _ => .bl _) ha hb (nomark _)
theorem et_gt (ha : EE X ex a ρ (.int i)) (hb : EE X ex b ρ (.int j)) : ET X ex (.Compare a [.Gt] [b] pos) ρ (decide (j < i)) := et_cmp op_gt (bin_I0 (g := fun i j => .bl (decide (j < i))) fun _ _ _ => .bl _) ha hb (nomark _)
theorem et_ge (ha : EE X ex a ρ (.int i)) (hb : EE X ex b ρ (.int j)) : ET X ex (.Compare a [.GtE] [b] pos) ρ (decide (j ≤ i)) := et_cmp op_ge (bin_I0 (g := fun i j => .bl (decide (j ≤ i))) fun _ _ _ => .bl _) ha hb (nomark _)

/-! ### == and != of any data -/
mutual
def D.py : D → PyData
  | .non => .none
  | .bl b => .bool b
  | .int i => .int i
  | .str s => .str s
  | .ty _ => .none
  | .tup ds => .tuple (D.pys ds)
  | .lst ds => .list (D.pys ds)
def D.pys : List D → List PyData
  | [] => []
  | d :: r => D.py d :: D.pys r
end
mutual
/-- no classes within, the texts small -/
def D.plain : D → Bool
  | .ty _ => false
  | .tup ds => D.plains ds
  | .lst ds => D.plains ds
  | .str s => PyData.strOk s
  | _ => true
def D.plains : List D → Bool
  | [] => true
  | d :: r => D.plain d && D.plains r
end
mutual
def D.depth : D → Nat
  | .tup ds => D.depths ds + 1
  | .lst ds => D.depths ds + 1
  | _ => 0
def D.depths : List D → Nat
  | [] => 0
  | d :: r => max (D.depth d) (D.depths r)
end
mutual
theorem D.canLay : ∀ d : D, d.plain = true → d.py.canLay0 = true
  | .non, _ => rfl
  | .bl _, _ => rfl
  | .int _, _ => rfl
  | .str _, h => h
  | .ty _, h => by cases h
  | .tup ds, h => D.canLays ds h
  | .lst ds, h => D.canLays ds h
theorem D.canLays : ∀ ds : List D, D.plains ds = true → PyData.canLayAll0 (D.pys ds) = true
  | [], _ => rfl
  | d :: r, h => by
    have h' : (D.plain d && D.plains r) = true := h
    rw [Bool.and_eq_true] at h'
    show (PyData.canLay0 d.py && PyData.canLayAll0 (D.pys r)) = true
    rw [D.canLay d h'.1, D.canLays r h'.2]; rfl
end
mutual
theorem D.depth_py : ∀ d : D, d.py.depth ≤ d.depth
  | .non => Nat.le_refl _
  | .bl _ => Nat.le_refl _
  | .int _ => Nat.le_refl _
  | .str _ => Nat.le_refl _
  | .ty _ => Nat.le_refl _
  | .tup ds => Nat.succ_le_succ (D.depths_py ds)
  | .lst ds => Nat.succ_le_succ (D.depths_py ds)
theorem D.depths_py : ∀ ds : List D, PyData.depthAll (D.pys ds) ≤ D.depths ds
  | [] => Nat.le_refl _
  | d :: r => by
    have h1 := D.depth_py d
    have h2 := D.depths_py r
    show max d.py.depth (PyData.depthAll (D.pys r)) ≤ max d.depth (D.depths r)
    omega
end
/-- may be compared by == -/
def D.cmp (d : D) : Bool := d.plain && decide (d.depth ≤ 64)
theorem D.shaped {d : D} (h : d.cmp = true) : SeqAt.shaped d.py = true := by
  have h' : (d.plain && decide (d.depth ≤ 64)) = true := h
  rw [Bool.and_eq_true] at h'
  unfold SeqAt.shaped
  rw [D.canLay d h'.1, decide_eq_true (Nat.le_trans (D.depth_py d) (of_decide_eq_true h'.2))]; rfl
def D.eqv (d e : D) : Bool := PyData.eqv d.py e.py
mutual
theorem Rep.dp {K : PySem.W.Frag} {G H : Hp} (e : Ex G H) : ∀ {d : D} {v : V}, Rep K G v d → d.plain = true → Dp K H v d.py
  | .non, _, .non, _ => .non
  | .bl _, _, .bl b, _ => .bl b
  | .int _, _, .int b, _ => .int b
  | .str _, _, .str b, _ => .str b
  | .ty _, _, .ty b, h => by cases h
  | .tup _, _, .tup h r, p => .tup (e.t h) (RepL.dp e r p)
  | .lst _, _, .lst h r, p => .lst (e.l h) (RepL.dp e r p)
theorem RepL.dp {K : PySem.W.Frag} {G H : Hp} (e : Ex G H) : ∀ {ds : List D} {vs : List V}, RepL K G vs ds → D.plains ds = true → DpAll K H vs (D.pys ds)
  | [], _, .nil, _ => .nil
  | d :: r, _, .cons h t, p => by
    have h' : (D.plain d && D.plains r) = true := p
    rw [Bool.and_eq_true] at h'
    exact .cons (Rep.dp e h h'.1) (RepL.dp e t h'.2)
end
theorem D.plain_of {d : D} (h : d.cmp = true) : d.plain = true := (Bool.and_eq_true_iff.mp h).1
theorem bin_eq (h1 : d1.cmp = true) (h2 : d2.cmp = true) : BinD X (rEqD X.K) d1 d2 (.bl (D.eqv d1 d2)) := fun G H v w Q e r1 r2 q =>
  ⟨d1.py, d2.py, r1.dp e (D.plain_of h1), r2.dp e (D.plain_of h2), D.shaped h1, D.shaped h2, q _ G H (.refl e) (.bl _)⟩
theorem bin_ne (h1 : d1.cmp = true) (h2 : d2.cmp = true) : BinD X (rNeD X.K) d1 d2 (.bl (!D.eqv d1 d2)) := fun G H v w Q e r1 r2 q =>
  ⟨d1.py, d2.py, r1.dp e (D.plain_of h1), r2.dp e (D.plain_of h2), D.shaped h1, D.shaped h2, q _ G H (.refl e) (.bl _)⟩
theorem ee_eq (hu : X.A.units + 64 < cLine) (ha : EE X ex a ρ d1) (hb : EE X ex b ρ d2) (h1 : d1.cmp = true) (h2 : d2.cmp = true) : EE X ex (.Compare a [.Eq] [b] pos) ρ (.bl (D.eqv d1 d2)) := ee_cmp (op_eqD hu) (bin_eq h1 h2) ha hb (nomark _)
theorem ee_ne (hu : X.A.units + 64 < cLine) (ha : EE X ex a ρ d1) (hb : EE X ex b ρ d2) (h1 : d1.cmp = true) (h2 : d2.cmp = true) : EE X ex (.Compare a [.NotEq] [b] pos) ρ (.bl (!D.eqv d1 d2)) := ee_cmp (op_neD hu) (bin_ne h1 h2) ha hb (nomark _)
theorem et_eq (hu : X.A.units + 64 < cLine) (ha : EE X ex a ρ d1) (hb : EE X ex b ρ d2) (h1 : d1.cmp = true) (h2 : d2.cmp = true) : ET X ex (.Compare a [.Eq] [b] pos) ρ (D.eqv d1 d2) := et_cmp (op_eqD hu) (bin_eq h1 h2) ha hb (nomark _)
theorem et_ne (hu : X.A.units + 64 < cLine) (ha : EE X ex a ρ d1) (hb : EE X ex b ρ d2) (h1 : d1.cmp = true) (h2 : d2.cmp = true) : ET X ex (.Compare a [.NotEq] [b] pos) ρ (!D.eqv d1 d2) := et_cmp (op_neD hu) (bin_ne h1 h2) ha hb (nomark _)
/-- of ints -/
theorem eqv_int (i j : Int) : D.eqv (.int i) (.int j) = decide (i = j) := Bool.beq_eq_decide_eq i j
theorem eqv_bl (i j : Bool) : D.eqv (.bl i) (.bl j) = (i == j) := rfl
theorem ee_eqI (hu : X.A.units + 64 < cLine) (ha : EE X ex a ρ (.int i)) (hb : EE X ex b ρ (.int j)) : EE X ex (.Compare a [.Eq] [b] pos) ρ (.bl (decide (i = j))) := eqv_int i j ▸ ee_eq hu ha hb rfl rfl
theorem ee_neI (hu : X.A.units + 64 < cLine) (ha : EE X ex a ρ (.int i)) (hb : EE X ex b ρ (.int j)) : EE X ex (.Compare a [.NotEq] [b] pos) ρ (.bl (!decide (i = j))) := eqv_int i j ▸ ee_ne hu ha hb rfl rfl
theorem et_eqI (hu : X.A.units + 64 < cLine) (ha : EE X ex a ρ (.int i)) (hb : EE X ex b ρ (.int j)) : ET X ex (.Compare a [.Eq] [b] pos) ρ (decide (i = j)) := eqv_int i j ▸ et_eq hu ha hb rfl rfl
theorem et_neI (hu : X.A.units + 64 < cLine) (ha : EE X ex a ρ (.int i)) (hb : EE X ex b ρ (.int j)) : ET X ex (.Compare a [.NotEq] [b] pos) ρ (!decide (i = j)) := eqv_int i j ▸ et_ne hu ha hb rfl rfl
/-- is None -/
def D.isN : D → Bool
  | .non => true
  | _ => false
theorem Rep.isN {K : PySem.W.Frag} {G : Hp} {v : V} {d : D} (r : Rep K G v d) : decide (v = .non) = d.isN := by
  cases r <;> rfl
theorem ee_isN {k pos'} (ha : EE X ex a ρ d) : EE X ex (.Compare a [.Is] [.Constant .none k pos'] pos) ρ (.bl d.isN) := ⟨fun E σ G H S =>
  of_pe (pe_cmp (pc_isN sem_pe) rfl) (tSem_mono (ha E σ G H S) fun v H1 ⟨G1, g1, r1⟩ => ⟨G1, g1, by rw [r1.isN]; exact .bl _⟩)⟩
theorem et_isN {k pos'} (ha : EE X ex a ρ d) : ET X ex (.Compare a [.Is] [.Constant .none k pos'] pos) ρ d.isN := ⟨fun E σ G H S =>
  of_pt (pt_cmp (pc_isN sem_pe) rfl) (tSem_mono (ha E σ G H S) fun v H1 ⟨G1, g1, r1⟩ => ⟨_, rfl, r1.isN, G1, g1⟩)⟩
theorem et_notN {k pos'} (ha : EE X ex a ρ d) : ET X ex (.Compare a [.IsNot] [.Constant .none k pos'] pos) ρ (!d.isN) := ⟨fun E σ G H S =>
  of_pt (pt_cmp (pc_notN sem_pe) rfl) (tSem_mono (ha E σ G H S) fun v H1 ⟨G1, g1, r1⟩ => ⟨_, rfl, by rw [r1.isN], G1, g1⟩)⟩

/-! ### tests -/
/-- the value of a bool as a test -/
theorem et_val {t : Bool} (h : EE X ex e ρ (.bl t)) (he : ∀ whole, isTrue e X.env whole = (do let v ← whole; standAt e.pos; holding [v] (truthy v)) := by intro _; rfl) : ET X ex e ρ t := ⟨fun E σ G H S =>
  of_pt (pt_val sem_pe he) (tSem_mono (h E σ G H S) fun v H1 ⟨G1, g1, r1⟩ => by cases r1; exact ⟨t, rfl, rfl, G1, g1⟩)⟩
theorem EW.et {t : Bool} (h : EW X ex e ρ t) : ET X ex e ρ t := ⟨fun E σ G H S pins s I => h E σ G H S _ pins s I⟩
theorem ew_and1 {t : Bool} (h : ET X ex a ρ t) : EW X ex (.BoolOp .And [a] pos) ρ t := ⟨fun E σ G H S => of_pw (pw_and1 sem_pt) (h E σ G H S)⟩
theorem ew_or1 {t : Bool} (h : ET X ex a ρ t) : EW X ex (.BoolOp .Or [a] pos) ρ t := ⟨fun E σ G H S => of_pw (pw_or1 sem_pt) (h E σ G H S)⟩
theorem ew_and {t u : Bool} {rest : List Expr} (h : ET X ex a ρ t) (k : t = true → EW X ex (.BoolOp .And (b :: rest) pos) ρ u) : EW X ex (.BoolOp .And (a :: b :: rest) pos) ρ (t && u) := ⟨fun E σ G H S =>
  of_pw (pw_and sem_pt sem_pw) (tSemT_mono (h E σ G H S) fun c H1 ⟨e1, G1, g1⟩ => by
    subst e1
    cases c with
    | true => rw [if_pos rfl]; exact tSemW_mono (k rfl E σ G1 H1 (S.grow g1)) fun c2 H2 ⟨e2, G2, g2⟩ => ⟨e2, G2, g1.trans g2⟩
    | false => rw [if_neg Bool.false_ne_true]; exact ⟨rfl, G1, g1⟩)⟩
theorem ew_or {t u : Bool} {rest : List Expr} (h : ET X ex a ρ t) (k : t = false → EW X ex (.BoolOp .Or (b :: rest) pos) ρ u) : EW X ex (.BoolOp .Or (a :: b :: rest) pos) ρ (t || u) := ⟨fun E σ G H S =>
  of_pw (pw_or sem_pt sem_pw) (tSemT_mono (h E σ G H S) fun c H1 ⟨e1, G1, g1⟩ => by
    subst e1
    cases c with
    | true => rw [if_pos rfl]; exact ⟨rfl, G1, g1⟩
    | false => rw [if_neg Bool.false_ne_true]; exact tSemW_mono (k rfl E σ G1 H1 (S.grow g1)) fun c2 H2 ⟨e2, G2, g2⟩ => ⟨e2, G2, g1.trans g2⟩)⟩
theorem et_not {t : Bool} (h : ET X ex a ρ t) : ET X ex (.UnaryOp .Not a pos) ρ (!t) := ⟨fun E σ G H S => of_pt (pt_not sem_pt) (tSemT_mono (h E σ G H S) fun c H1 ⟨e1, G1, g1⟩ => ⟨by rw [e1], G1, g1⟩)⟩
/-- .. as values -/
theorem ee_one {op} (h : EE X ex a ρ d) : EE X ex (.BoolOp op [a] pos) ρ d := ⟨fun E σ G H S => of_pe (pe_one sem_pe) (h E σ G H S)⟩
theorem ee_and {t u : Bool} {rest : List Expr} (h : EE X ex a ρ (.bl t)) (k : t = true → EE X ex (.BoolOp .And (b :: rest) pos) ρ (.bl u)) : EE X ex (.BoolOp .And (a :: b :: rest) pos) ρ (.bl (t && u)) := ⟨fun E σ G H S =>
  of_pe (pe_and sem_pe sem_pe) (tSem_mono (h E σ G H S) fun v H1 ⟨G1, g1, r1⟩ => by
    cases r1
    refine ⟨t, rfl, ?_⟩
    cases t with
    | true => rw [if_pos rfl]; exact tSem_mono (k rfl E σ G1 H1 (S.grow g1)) fun c2 H2 ⟨G2, g2, r2⟩ => ⟨G2, g1.trans g2, r2⟩
    | false => rw [if_neg Bool.false_ne_true]; exact ⟨G1, g1, .bl _⟩)⟩
theorem ee_or {t u : Bool} {rest : List Expr} (h : EE X ex a ρ (.bl t)) (k : t = false → EE X ex (.BoolOp .Or (b :: rest) pos) ρ (.bl u)) : EE X ex (.BoolOp .Or (a :: b :: rest) pos) ρ (.bl (t || u)) := ⟨fun E σ G H S =>
  of_pe (pe_or sem_pe sem_pe) (tSem_mono (h E σ G H S) fun v H1 ⟨G1, g1, r1⟩ => by
    cases r1
    refine ⟨t, rfl, ?_⟩
    cases t with
    | true => rw [if_pos rfl]; exact ⟨G1, g1, .bl _⟩
    | false => rw [if_neg Bool.false_ne_true]; exact tSem_mono (k rfl E σ G1 H1 (S.grow g1)) fun c2 H2 ⟨G2, g2, r2⟩ => ⟨G2, g1.trans g2, r2⟩)⟩
theorem ee_not {t : Bool} (h : EE X ex a ρ (.bl t)) : EE X ex (.UnaryOp .Not a pos) ρ (.bl (!t)) := ⟨fun E σ G H S =>
  of_pe (pe_not sem_pe) (tSem_mono (h E σ G H S) fun v H1 ⟨G1, g1, r1⟩ => by cases r1; exact ⟨t, rfl, G1, g1, .bl _⟩)⟩
theorem ee_if {t : Bool} (hc : ET X ex c ρ t) (h1 : t = true → EE X ex a ρ d1) (h2 : t = false → EE X ex b ρ d2) : EE X ex (.IfExp c a b pos) ρ (if t then d1 else d2) := ⟨fun E σ G H S =>
  of_pe (pe_ifExp sem_pt sem_pe sem_pe) (tSemT_mono (hc E σ G H S) fun k H1 ⟨e1, G1, g1⟩ => by
    subst e1
    cases k with
    | true => rw [if_pos rfl]; exact tSem_mono (h1 rfl E σ G1 H1 (S.grow g1)) fun c2 H2 ⟨G2, g2, r2⟩ => ⟨G2, g1.trans g2, r2⟩
    | false => rw [if_neg Bool.false_ne_true]; exact tSem_mono (h2 rfl E σ G1 H1 (S.grow g1)) fun c2 H2 ⟨G2, g2, r2⟩ => ⟨G2, g1.trans g2, r2⟩)⟩

/-! ### arguments, tuples, lists -/
theorem ea_nil : EA X ex [] ρ [] := ⟨fun E σ G H S => of_pa pa_nil ⟨G, .refl S.gh, .nil⟩⟩
theorem ea_cons (h : EE X ex e ρ d) (t : EA X ex es ρ ds) (hs : starEach (e :: es) X.env = (false, eval e X.env) :: starEach es X.env := by rfl) : EA X ex (e :: es) ρ (d :: ds) := ⟨fun E σ G H S =>
  of_pa (pa_cons sem_pe sem_pa hs) (tSem_mono (h E σ G H S) fun v H1 ⟨G1, g1, r1⟩ => tSemA_mono (t E σ G1 H1 (S.grow g1)) fun vs H2 ⟨G2, g2, r2⟩ => ⟨G2, g1.trans g2, .cons (r1.mono g2.g) r2⟩)⟩
theorem len_ok {ds : List D} (h : Nat.ble ds.length 64 = true) : ds.length ≤ sizeLine := Nat.le_trans (Nat.le_of_ble_eq_true h) (by decide)
theorem ee_tup {k} (h : EA X ex es ρ ds) (hl : ds.length ≤ sizeLine := by exact len_ok rfl) : EE X ex (.Tuple es k pos) ρ (.tup ds) := ⟨fun E σ G H S =>
  of_pe (pe_tup sem_pa) (tSemA_mono (h E σ G H S) fun vs H1 ⟨G1, g1, r1⟩ => ⟨by rw [r1.length]; exact hl, fun p hp =>
    have g2 := Grow.new (u := .tup vs) g1.gh hp
    ⟨_, g1.trans g2, .tup (.inl (.inl upd_same)) (r1.mono g2.g)⟩⟩)⟩
theorem eo_lst (h : EA X ex es ρ ds) (hl : ds.length ≤ sizeLine := by exact len_ok rfl) : EO X ex (.List es pos) ρ (fun o => o = .ml ds) := ⟨fun E σ G H S =>
  of_pe (pe_lst sem_pa) (tSemA_mono (h E σ G H S) fun vs H1 ⟨G1, g1, r1⟩ => ⟨by rw [r1.length]; exact hl, fun p hp =>
    have g2 := Grow.newH (u := .lst vs) g1.gh hp
    ⟨.ml ds, _, g1.trans g2, ⟨p, vs, rfl, upd_same, g1.gh.back hp, g1.h.back hp, r1⟩, rfl⟩⟩)⟩

/-! ### an item -/
def D.items : D → Option (List D)
  | .tup ds => some ds
  | .lst ds => some ds
  | _ => none
theorem RepL.atI {K : PySem.W.Frag} {G : Hp} {ds : List D} {xs : List V} {n : Int} {d : D} (r : RepL K G xs ds) (h : atI ds n = some d) : ∃ v, atI xs n = some v ∧ Rep K G v d := by
  unfold L2.atI at h ⊢
  rw [r.length]
  cases e : ixN ds.length n with
  | none => rw [e] at h; cases h
  | some j =>
    rw [e] at h
    exact r.get h
theorem bin_ix (hi : d1.items = some ds) (ha : atI ds i = some d) : BinD X (rIx X.K) d1 (.int i) d := fun G H v w Q e r1 r2 q => by
  cases r2
  cases r1 with
  | tup h r =>
    cases hi
    obtain ⟨u, hu, ru⟩ := r.atI ha
    exact .inr (.inl ⟨_, _, i, u, rfl, rfl, e.t h, hu, q u G H (.refl e) ru⟩)
  | lst h r =>
    cases hi
    obtain ⟨u, hu, ru⟩ := r.atI ha
    exact .inl ⟨_, _, i, u, rfl, rfl, e.l h, hu, q u G H (.refl e) ru⟩
  | _ => cases hi
theorem ee_ix (ha : EE X ex a ρ d1) (hb : EE X ex b ρ (.int i)) (hi : d1.items = some ds) (h : atI ds i = some d) (hs : PlainIx b := by exact fun _ _ => rfl) : EE X ex (.Subscript a b pos) ρ d := ⟨fun E σ G H S =>
  of_pe (pe_ix ix_seq sem_pe sem_pe hs) (tSem_mono (ha E σ G H S) fun v H1 ⟨G1, g1, r1⟩ => tSem_mono (hb E σ G1 H1 (S.grow g1)) fun w H2 ⟨G2, g2, r2⟩ =>
    bin_ix hi h G2 H2 v w _ g2.gh (r1.mono g2.g) r2 fun u G3 H3 g3 r3 => ⟨G3, (g1.trans g2).trans g3, r3⟩)⟩

/-! ### calls of built-ins -/
/-- a built-in on data -/
def CalD (X : Cx) (r : List V → Hp → VK → Prop) (ds : List D) (P : O → Prop) : Prop := ∀ (G H : Hp) (vs : List V) (Q : VK), Ex G H → RepL X.K G vs ds → (∀ u o G' H', Grow G H G' H' → OOk X.K H G' H' o u → P o → Q u H') → r vs H Q
theorem eo_blt {id : String} {r : List V → Hp → VK → Prop} {P : O → Prop} {p : Pos} (hc : CallR X (.builtin id) r) (hr : CalD X r ds P) (hg : Gl X x) (hm : X.mg x = none) (hv : bootBuiltins x = some (.builtin id)) (ha : EA X ex (e :: es) ρ ds) (hn : x ≠ "__name__" := by decide) (hdb : (x == ("__debug__" : Str)) = false := by decide)
    (he : starEach (e :: es) X.env = (false, eval e X.env) :: starEach es X.env := by rfl) (hpl : (backTo pos (starEach es X.env)).any (·.1) = false := by rfl) : EO X ex (.Call (.Name x p) (e :: es) [] pos) ρ P := ⟨fun E σ G H S =>
  of_pe (pe_callB hc hg hm hv sem_pa hn hdb he hpl) (tSemA_mono (ha E σ G H S) fun vs H1 ⟨G1, g1, r1⟩ =>
    hr G1 H1 vs _ g1.gh r1 fun u o G2 H2 g2 q p => ⟨o, G2, g1.trans g2, by
      cases o with
      | un => trivial
      | va d => exact q
      | rf a => exact q
      | ml ds => obtain ⟨a, xs, e, h1, h2, h3, r⟩ := q; exact ⟨a, xs, e, h1, h2, g1.h.back h3, r⟩, p⟩)⟩
theorem eo_cty {T : String} {r : List V → Hp → VK → Prop} {P : O → Prop} {p : Pos} (hc : CallR X (.type T) r) (hr : CalD X r ds P) (hg : Gl X x) (hm : X.mg x = none) (hv : bootBuiltins x = some (.type T)) (ha : EA X ex (e :: es) ρ ds) (hn : x ≠ "__name__" := by decide) (hdb : (x == ("__debug__" : Str)) = false := by decide)
    (he : starEach (e :: es) X.env = (false, eval e X.env) :: starEach es X.env := by rfl) (hpl : (backTo pos (starEach es X.env)).any (·.1) = false := by rfl) : EO X ex (.Call (.Name x p) (e :: es) [] pos) ρ P := ⟨fun E σ G H S =>
  of_pe (pe_callTy hc hg hm hv sem_pa hn hdb he hpl) (tSemA_mono (ha E σ G H S) fun vs H1 ⟨G1, g1, r1⟩ =>
    hr G1 H1 vs _ g1.gh r1 fun u o G2 H2 g2 q p => ⟨o, G2, g1.trans g2, by
      cases o with
      | un => trivial
      | va d => exact q
      | rf a => exact q
      | ml ds => obtain ⟨a, xs, e, h1, h2, h3, r⟩ := q; exact ⟨a, xs, e, h1, h2, g1.h.back h3, r⟩, p⟩)⟩
theorem RepL.of1 {K : PySem.W.Frag} {G : Hp} {vs : List V} {d : D} (r : RepL K G vs [d]) : ∃ v, vs = [v] ∧ Rep K G v d := by
  cases r with
  | cons h t => cases t; exact ⟨_, rfl, h⟩
theorem RepL.of2 {K : PySem.W.Frag} {G : Hp} {vs : List V} {d e : D} (r : RepL K G vs [d, e]) : ∃ v w, vs = [v, w] ∧ Rep K G v d ∧ Rep K G w e := by
  cases r with
  | cons h t =>
    cases t with
    | cons h' t' => cases t'; exact ⟨_, _, rfl, h, h'⟩
variable {p : Pos}
theorem ee_abs (hg : Gl X "abs") (hm : X.mg "abs" = none) (ha : EA X ex [e] ρ [.int i]) (he : starEach [e] X.env = (false, eval e X.env) :: starEach [] X.env := by rfl) (hpl : (backTo pos (starEach [] X.env)).any (·.1) = false := by rfl) : EE X ex (.Call (.Name "abs" p) [e] [] pos) ρ (.int (if i < 0 then -i else i)) :=
  ee_va (eo_blt call_abs (fun G H vs Q e r q => by
    obtain ⟨v, rfl, r1⟩ := r.of1
    cases r1
    exact ⟨i, rfl, q _ (.va _) G H (.refl e) (.int _) rfl⟩) hg hm (by decide +kernel) ha (by decide) (by decide) he hpl)
theorem ee_toInt (hg : Gl X "int") (hm : X.mg "int" = none) (ha : EA X ex [e] ρ [.int i]) (he : starEach [e] X.env = (false, eval e X.env) :: starEach [] X.env := by rfl) (hpl : (backTo pos (starEach [] X.env)).any (·.1) = false := by rfl) : EE X ex (.Call (.Name "int" p) [e] [] pos) ρ (.int i) :=
  ee_va (eo_cty call_int1 (fun G H vs Q e r q => by
    obtain ⟨v, rfl, r1⟩ := r.of1
    cases r1
    exact .inl ⟨i, rfl, q _ (.va _) G H (.refl e) (.int _) rfl⟩) hg hm (by decide +kernel) ha (by decide) (by decide) he hpl)
theorem ee_len (hg : Gl X "len") (hm : X.mg "len" = none) (ha : EA X ex [e] ρ [d]) (hi : d.items = some ds) (he : starEach [e] X.env = (false, eval e X.env) :: starEach [] X.env := by rfl) (hpl : (backTo pos (starEach [] X.env)).any (·.1) = false := by rfl) : EE X ex (.Call (.Name "len" p) [e] [] pos) ρ (.int ds.length) :=
  ee_va (eo_blt call_len_seq (fun G H vs Q e r q => by
    obtain ⟨v, rfl, r1⟩ := r.of1
    cases r1 with
    | tup h r2 =>
      cases hi
      exact ⟨_, _, rfl, .inr (e.t h), q _ (.va (.int _)) G H (.refl e) (by rw [r2.length]; exact .int _) rfl⟩
    | lst h r2 =>
      cases hi
      exact ⟨_, _, rfl, .inl (e.l h), q _ (.va (.int _)) G H (.refl e) (by rw [r2.length]; exact .int _) rfl⟩
    | _ => cases hi) hg hm (by decide +kernel) ha (by decide) (by decide) he hpl)
/-- the type of data, as isinstance asks -/
def D.tyN : D → String
  | .non => "NoneType"
  | .bl _ => "bool"
  | .int _ => "int"
  | .str _ => "str"
  | .ty _ => ""
  | .tup _ => "tuple"
  | .lst _ => "list"
theorem Rep.tyX {K : PySem.W.Frag} {G H : Hp} {v : V} {d : D} (e : Ex G H) (r : Rep K G v d) (h : d.tyN ≠ "") : TyX K H v (.type d.tyN) := by
  cases r with
  | non => exact .base .non
  | bl b => exact .base (.bl b)
  | int b => exact .base (.int b)
  | str b => exact .base (.str b)
  | ty n => exact absurd rfl h
  | tup h' r =>
    rcases h' with (h' | ⟨o, h'⟩) | ⟨o, _, _, h', c, _⟩
    · exact .base (.tup (e _ _ h'))
    · exact .fTuple (e _ _ h')
    · exact .kTuple h' c
  | lst h' r =>
    rcases h' with (h' | ⟨o, h'⟩) | ⟨o, _, _, h', c, _⟩
    · exact .base (.lst (e _ _ h'))
    · exact .base (.frz (e _ _ h'))
    · exact .kList h' c
theorem ee_isi {n : String} {t : Bool} (hg : Gl X "isinstance") (hm : X.mg "isinstance" = none) (ha : EA X ex [a, b] ρ [d, .ty n]) (hk : kitB d.tyN n = some t) (hn : d.tyN ≠ "") (he : starEach [a, b] X.env = (false, eval a X.env) :: starEach [b] X.env := by rfl) (hpl : (backTo pos (starEach [b] X.env)).any (·.1) = false := by rfl) : EE X ex (.Call (.Name "isinstance" p) [a, b] [] pos) ρ (.bl t) :=
  ee_va (eo_blt call_isi (fun G H vs Q e r q => by
    obtain ⟨v, w, rfl, r1, r2⟩ := r.of2
    cases r2
    exact ⟨v, _, _, _, t, rfl, .ty n, r1.tyX e hn, kit_ty hk, q _ (.va _) G H (.refl e) (.bl _) rfl⟩) hg hm (by decide +kernel) ha (by decide) (by decide) he hpl)
/-- isinstance(d, tuple | list | int | bool | str) -/
def isAT (t n : String) : Bool := t == n || (t == "bool" && n == "int")
def D.isA (d : D) (n : String) : Bool := isAT d.tyN n
def isAName (n : String) : Bool := n == "bool" || n == "int" || n == "str" || n == "tuple" || n == "list"
def tyNames : List String := ["NoneType", "bool", "int", "str", "tuple", "list"]
theorem kitB_names : ∀ t ∈ tyNames, ∀ n ∈ ["bool", "int", "str", "tuple", "list"], kitB t n = some (isAT t n) := by decide +kernel
theorem tyN_mem {d : D} (h : d.tyN ≠ "") : d.tyN ∈ tyNames := by
  cases d <;> first
    | exact absurd rfl h
    | simp [D.tyN, tyNames]
theorem kitB_isA {d : D} {n : String} (hn : isAName n = true) (h : d.tyN ≠ "") : kitB d.tyN n = some (d.isA n) := by
  refine kitB_names _ (tyN_mem h) n ?_
  simp only [isAName, Bool.or_eq_true, beq_iff_eq] at hn
  rcases hn with (((h | h) | h) | h) | h <;> (subst h; simp)
theorem ee_isA {n : String} (hg : Gl X "isinstance") (hm : X.mg "isinstance" = none) (ha : EA X ex [a, b] ρ [d, .ty n]) (hk : isAName n = true) (hn : d.tyN ≠ "") (he : starEach [a, b] X.env = (false, eval a X.env) :: starEach [b] X.env := by rfl) (hpl : (backTo pos (starEach [b] X.env)).any (·.1) = false := by rfl) : EE X ex (.Call (.Name "isinstance" p) [a, b] [] pos) ρ (.bl (d.isA n)) := ee_isi hg hm ha (kitB_isA hk hn) hn he hpl

/-! ### calls of the text's defs -/
/-- a def's promise over data -/
structure Spc where
  S : List D → (O → Prop) → Prop
  mono : ∀ ds (Q Q' : O → Prop), (∀ o, Q o → Q' o) → S ds Q → S ds Q'
/-- a function: the arguments by x, what it asks of them, what comes back -/
def Spc.fn {α : Type} (args : α → List D) (pre : α → Prop) (res : α → O) : Spc := ⟨fun ds Q => ∃ x, ds = args x ∧ pre x ∧ Q (res x), fun _ _ _ k ⟨x, e, p, q⟩ => ⟨x, e, p, k _ q⟩⟩
/-- .. by a relation -/
def Spc.rel {α : Type} (args : α → List D) (pre : α → Prop) (post : α → O → Prop) : Spc := ⟨fun ds Q => ∃ x, ds = args x ∧ pre x ∧ ∀ o, post x o → Q o, fun _ _ _ k ⟨x, e, p, q⟩ => ⟨x, e, p, fun o h => k _ (q o h)⟩⟩
def spOf (K : PySem.W.Frag) (S : Spc) : Sp := fun vs H Q _ => ∃ ds G, Ex G H ∧ RepL K G vs ds ∧ S.S ds fun o => ∀ v G' H', Grow G H G' H' → OOk K H G' H' o v → Q v H'
section
variable {CX : CXT} {k : Nat} {f : Addr} {fd : FuncData} {ps : List Str} {S : Spc} {P : O → Prop} {dvs : List V} {dds : List D} {dus : List Value}
/-- f(..) : the written arguments, then the defaults -/
theorem eo_call (F : FnOk X.prog X.w X.K X.mg X.base CX k f fd ps (spOf X.K S)) (hr : Room k X.A) (hm : X.mg x = some (.ref f)) (hk : PySem.W.keepIn X.K (.ref f) = true) (hb : Binds X.K fd ps dus) (hd : Vals dvs dus) (hD : ∀ G, RepL X.K G dvs dds) (hx : Passes CX X E0)
    (ha : EA X ex (e :: es) ρ ds) (hq : S.S (ds ++ dds) P) (hg : Gl X x := by rfl) (hdb : (x == ("__debug__" : Str)) = false := by decide) (he : starEach (e :: es) X.env = (false, eval e X.env) :: starEach es X.env := by rfl) (hpl : (backTo pos (starEach es X.env)).any (·.1) = false := by rfl) :
    EO X ex (.Call (.Name x p) (e :: es) [] pos) ρ P := ⟨fun E σ G H Sk =>
  of_pe (pe_call F hr hg hm hk hb hd hx sem_pa hdb he hpl) (tSemA_mono (ha E σ G H Sk) fun vs H1 ⟨G1, g1, r1⟩ =>
    ⟨ds ++ dds, G1, g1.gh, r1.append (hD G1), S.mono _ _ _ (fun o hP v G2 H2 g2 q => ⟨o, G2, g1.trans g2, by
      cases o with
      | un => trivial
      | va d => exact q
      | rf a => exact q
      | ml ds => obtain ⟨a, xs, e, h1, h2, h3, r⟩ := q; exact ⟨a, xs, e, h1, h2, g1.h.back h3, r⟩, hP⟩) hq⟩)⟩
theorem eo_call0 (F : FnOk X.prog X.w X.K X.mg X.base CX k f fd ps (spOf X.K S)) (hr : Room k X.A) (hm : X.mg x = some (.ref f)) (hk : PySem.W.keepIn X.K (.ref f) = true) (hb : Binds X.K fd ps dus) (hd : Vals dvs dus) (hD : ∀ G, RepL X.K G dvs dds) (hx : Passes CX X E0)
    (hq : S.S dds P) (hg : Gl X x := by rfl) (hdb : (x == ("__debug__" : Str)) = false := by decide) :
    EO X ex (.Call (.Name x p) [] [] pos) ρ P := ⟨fun E σ G H Sk =>
  of_pe (pe_call0 F hr hg hm hk hb hd hx hdb) ⟨dds, G, Sk.gh, hD G, S.mono _ _ _ (fun o hP v G2 H2 g2 q => ⟨o, G2, g2, q, hP⟩) hq⟩⟩
end
end
end TG
/-! Statements over plain data. -/
namespace TG
open PySem PySem.Spec PyProof.Rows L2

structure Eds where
  nx : List O → Prop
  rt : O → Prop
  bk : List O → Prop := fun _ => False
  ct : List O → Prop := fun _ => False
/-- what comes back of a def -/
structure ROk (K : PySem.W.Frag) (E : Hp × Hp) (o : O) (v : V) (G H : Hp) : Prop where
  g0 : Ex E.1 G
  gh : Ex G H
  h0 : Ex E.2 H
  fr : ∀ b, E.1 b = none → G b ≠ none → E.2 b = none
  ok : OOk K E.2 G H o v
def lift (K : PySem.W.Frag) (E : Hp × Hp) (G : Hp) (W : Eds) : Ends where
  nx := fun σ' H' => ∃ ρ' G', SOk K E ρ' σ' G' H' ∧ Ex G G' ∧ W.nx ρ'
  rt := fun v H' => ∃ o G', ROk K E o v G' H' ∧ W.rt o
  bk := fun σ' H' => ∃ ρ' G', SOk K E ρ' σ' G' H' ∧ Ex G G' ∧ W.bk ρ'
  ct := fun σ' H' => ∃ ρ' G', SOk K E ρ' σ' G' H' ∧ Ex G G' ∧ W.ct ρ'
structure WS (X : Cx) (ex : Exs) (st : Stmt) (ρ : List O) (W : Eds) : Prop where
  run : ∀ (E : Hp × Hp) (σ : L2.St) (G H : Hp), SOx X ex E ρ σ G H → tSemS X st (lift X.K E G W) σ H
instance {X : Cx} {ex : Exs} {st : Stmt} {ρ : List O} {W : Eds} : CoeFun (WS X ex st ρ W) (fun _ => ∀ (E : Hp × Hp) (σ : L2.St) (G H : Hp), SOx X ex E ρ σ G H → tSemS X st (lift X.K E G W) σ H) := ⟨WS.run⟩

structure WSs (X : Cx) (ex : Exs) (st : List Stmt) (ρ : List O) (W : Eds) : Prop where
  run : ∀ (E : Hp × Hp) (σ : L2.St) (G H : Hp), SOx X ex E ρ σ G H → tSemSs X st (lift X.K E G W) σ H
instance {X : Cx} {ex : Exs} {st : List Stmt} {ρ : List O} {W : Eds} : CoeFun (WSs X ex st ρ W) (fun _ => ∀ (E : Hp × Hp) (σ : L2.St) (G H : Hp), SOx X ex E ρ σ G H → tSemSs X st (lift X.K E G W) σ H) := ⟨WSs.run⟩

section
variable {X : Cx} {ex : Exs} {ρ : List O} {e : Expr} {st : Stmt} {rest : List Stmt} {W : Eds} {d : D} {ds : List D} {pos pos' : Pos} {i : Nat} {x : Str}
theorem tSemS_mono {W W' : Ends} {σ : L2.St} {H : Hp} (h : tSemS X st W σ H) (n : ∀ σ H, W.nx σ H → W'.nx σ H) (r : ∀ v H, W.rt v H → W'.rt v H) (b : ∀ σ H, W.bk σ H → W'.bk σ H) (c : ∀ σ H, W.ct σ H → W'.ct σ H) : tSemS X st W' σ H := fun pins s I =>
  thn (h pins s I) fun f s' q => by
    cases f with
    | next => obtain ⟨σ', H', I', q⟩ := q; exact ⟨σ', H', I', n _ _ q⟩
    | brk => obtain ⟨σ', H', I', q⟩ := q; exact ⟨σ', H', I', b _ _ q⟩
    | cont => obtain ⟨σ', H', I', q⟩ := q; exact ⟨σ', H', I', c _ _ q⟩
    | ret u => obtain ⟨v, σ', H', I', rv, q⟩ := q; exact ⟨v, σ', H', I', rv, r _ _ q⟩
theorem tSemSs_mono {sts : List Stmt} {W W' : Ends} {σ : L2.St} {H : Hp} (h : tSemSs X sts W σ H) (n : ∀ σ H, W.nx σ H → W'.nx σ H) (r : ∀ v H, W.rt v H → W'.rt v H) (b : ∀ σ H, W.bk σ H → W'.bk σ H) (c : ∀ σ H, W.ct σ H → W'.ct σ H) : tSemSs X sts W' σ H := fun pins s I =>
  thn (h pins s I) fun f s' q => by
    cases f with
    | next => obtain ⟨σ', H', I', q⟩ := q; exact ⟨σ', H', I', n _ _ q⟩
    | brk => obtain ⟨σ', H', I', q⟩ := q; exact ⟨σ', H', I', b _ _ q⟩
    | cont => obtain ⟨σ', H', I', q⟩ := q; exact ⟨σ', H', I', c _ _ q⟩
    | ret u => obtain ⟨v, σ', H', I', rv, q⟩ := q; exact ⟨v, σ', H', I', rv, r _ _ q⟩
theorem up_ex {K : PySem.W.Frag} {E : Hp × Hp} {G G1 : Hp} (e : Ex G G1) {P : List O → Prop} {σ : L2.St} {H : Hp} (h : ∃ ρ' G', SOk K E ρ' σ G' H ∧ Ex G1 G' ∧ P ρ') : ∃ ρ' G', SOk K E ρ' σ G' H ∧ Ex G G' ∧ P ρ' :=
  let ⟨ρ', G', S, x, p⟩ := h; ⟨ρ', G', S, e.trans x, p⟩
theorem WSs.go {sts : List Stmt} (h : WSs X ex sts ρ W) {E : Hp × Hp} {σ : L2.St} {G G1 H : Hp} (S : SOx X ex E ρ σ G1 H) (e : Ex G G1) : tSemSs X sts (lift X.K E G W) σ H :=
  tSemSs_mono (h E σ G1 H S) (fun _ _ => up_ex e) (fun _ _ h => h) (fun _ _ => up_ex e) (fun _ _ => up_ex e)
theorem WS.go (h : WS X ex st ρ W) {E : Hp × Hp} {σ : L2.St} {G G1 H : Hp} (S : SOx X ex E ρ σ G1 H) (e : Ex G G1) : tSemS X st (lift X.K E G W) σ H :=
  tSemS_mono (h E σ G1 H S) (fun _ _ => up_ex e) (fun _ _ h => h) (fun _ _ => up_ex e) (fun _ _ => up_ex e)
theorem WSs.mono {sts : List Stmt} {W' : Eds} (h : WSs X ex sts ρ W) (n : ∀ ρ, W.nx ρ → W'.nx ρ) (r : ∀ o, W.rt o → W'.rt o) (b : ∀ ρ, W.bk ρ → W'.bk ρ) (c : ∀ ρ, W.ct ρ → W'.ct ρ) : WSs X ex sts ρ W' := ⟨fun E σ G H S =>
  tSemSs_mono (h E σ G H S) (fun _ _ ⟨a, b', s, x, p⟩ => ⟨a, b', s, x, n _ p⟩) (fun _ _ ⟨a, b', s, p⟩ => ⟨a, b', s, r _ p⟩) (fun _ _ ⟨a, b', s, x, p⟩ => ⟨a, b', s, x, b _ p⟩) (fun _ _ ⟨a, b', s, x, p⟩ => ⟨a, b', s, x, c _ p⟩)⟩
theorem WS.mono {W' : Eds} (h : WS X ex st ρ W) (n : ∀ ρ, W.nx ρ → W'.nx ρ) (r : ∀ o, W.rt o → W'.rt o) (b : ∀ ρ, W.bk ρ → W'.bk ρ) (c : ∀ ρ, W.ct ρ → W'.ct ρ) : WS X ex st ρ W' := ⟨fun E σ G H S =>
  tSemS_mono (h E σ G H S) (fun _ _ ⟨a, b', s, x, p⟩ => ⟨a, b', s, x, n _ p⟩) (fun _ _ ⟨a, b', s, p⟩ => ⟨a, b', s, r _ p⟩) (fun _ _ ⟨a, b', s, x, p⟩ => ⟨a, b', s, x, b _ p⟩) (fun _ _ ⟨a, b', s, x, p⟩ => ⟨a, b', s, x, c _ p⟩)⟩

/-! ### blocks -/
theorem ws_nil (h : W.nx ρ) : WSs X ex [] ρ W := ⟨fun E σ G H S => of_pss pss_nil ⟨ρ, G, S, Ex.refl _, h⟩⟩
/-- a statement, then the rest -/
theorem ws_cons (h : WS X ex st ρ { W with nx := fun ρ' => WSs X ex rest ρ' W }) : WSs X ex (st :: rest) ρ W := ⟨fun E σ G H S =>
  of_pss (pss_cons sem_ps sem_pss) (tSemS_mono (h E σ G H S) (fun _ _ ⟨ρ', G', S', x, q⟩ => q.go (S.at S' x) x) (fun _ _ h => h) (fun _ _ h => h) (fun _ _ h => h))⟩
theorem ws_one (h : WS X ex st ρ W) : WSs X ex [st] ρ W := ⟨fun E σ G H S => of_pss (pss_one sem_ps) (h E σ G H S)⟩
/-- a word between a statement and the rest -/
theorem ws_cut (M : List O → Prop) (h : WS X ex st ρ { W with nx := M }) (k : ∀ ρ', M ρ' → WSs X ex rest ρ' W) : WSs X ex (st :: rest) ρ W := ws_cons (h.mono k (fun _ h => h) (fun _ h => h) (fun _ h => h))
/-- slots forgotten -/
theorem ws_le {sts : List Stmt} {ρ' : List O} (l : Le ρ ρ') (h : WSs X ex sts ρ' W) : WSs X ex sts ρ W := ⟨fun E σ G H S => h E σ G H (S.le l)⟩
theorem ws_le1 {ρ' : List O} (l : Le ρ ρ') (h : WS X ex st ρ' W) : WS X ex st ρ W := ⟨fun E σ G H S => h E σ G H (S.le l)⟩

/-! ### small statements -/
theorem ws_pass (h : W.nx ρ) : WS X ex (.Pass pos) ρ W := ⟨fun E σ G H S => of_ps ps_pass ⟨ρ, G, S, Ex.refl _, h⟩⟩
theorem ws_break (h : W.bk ρ) : WS X ex (.Break pos) ρ W := ⟨fun E σ G H S => of_ps ps_break ⟨ρ, G, S, Ex.refl _, h⟩⟩
theorem ws_continue (h : W.ct ρ) : WS X ex (.Continue pos) ρ W := ⟨fun E σ G H S => of_ps ps_continue ⟨ρ, G, S, Ex.refl _, h⟩⟩
theorem OOk.h0 {K : PySem.W.Frag} {E : Hp × Hp} {H G' H' : Hp} {o : O} {v : V} (h0 : Ex E.2 H) (q : OOk K H G' H' o v) : OOk K E.2 G' H' o v := by
  cases o with
  | un => trivial
  | va d => exact q
  | rf a => exact q
  | ml ds => obtain ⟨a, xs, e, h1, h2, h3, r⟩ := q; exact ⟨a, xs, e, h1, h2, h0.back h3, r⟩
theorem ws_ret {P : O → Prop} (h : EO X ex e ρ P) (k : ∀ o, P o → W.rt o) : WS X ex (.Return (some e) pos) ρ W := ⟨fun E σ G H S =>
  of_ps (ps_ret sem_pe) (tSem_mono (h E σ G H S) fun v H1 ⟨o, G1, g, q, p⟩ => by
    have S1 := S.grow g
    exact ⟨o, G1, ⟨S1.g0, S1.gh, S1.h0, S1.fr, q.h0 S.h0⟩, k o p⟩)⟩
theorem ws_retE (h : EE X ex e ρ d) (k : W.rt (.va d)) : WS X ex (.Return (some e) pos) ρ W := ws_ret h.eo fun o p => p ▸ k
theorem ws_retN (k : W.rt (.va .non)) : WS X ex (.Return none pos) ρ W := ⟨fun E σ G H S =>
  of_ps ps_retN ⟨.va .non, G, ⟨S.g0, S.gh, S.h0, S.fr, .non⟩, k⟩⟩
/-- return xs, a list of its own -/
theorem ws_retM (i : Nat) (hr : ρ[i]? = some (.ml ds)) (k : W.rt (.ml ds)) (hN : X.N[i]? = some x := by rfl) (hv : Vis X.env.scope x := by first | exact Or.inl rfl | exact Or.inr (Or.inl rfl) | exact Or.inr (Or.inr rfl)) (hd : (x == ("__debug__" : Str)) = false := by decide)
    (hcd : (x == ("__classdict__" : Str)) = false := by decide) : WS X ex (.Return (some (.Name x pos)) pos') ρ W := ⟨fun E σ G H S => by
  obtain ⟨a, xs, h1, h2, h3, h4, r⟩ := S.getL hr
  exact of_ps (ps_ret (pe_var hN hv hd hcd)) ⟨.ref a, h1, .ml ds, G, ⟨S.g0, S.gh, S.h0, S.fr, ⟨a, xs, rfl, h2, h3, h4, r⟩⟩, k⟩⟩
/-- an expression whose value is dropped -/
theorem ws_expr {P : O → Prop} (h : EO X ex e ρ P) (k : W.nx ρ) (hs : swapsWith e none pos.line X.env = pure false := by rfl) : WS X ex (.Expr e pos) ρ W := ⟨fun E σ G H S =>
  of_ps (ps_expr sem_pe hs) (tSem_mono (h E σ G H S) fun v H1 ⟨o, G1, g, q, p⟩ => ⟨ρ, G1, S.grow g, g.g, k⟩)⟩

/-! ### if -/
theorem ws_if {c : Expr} {A B : List Stmt} {t : Bool} (hc : ET X ex c ρ t) (h1 : t = true → WSs X ex A ρ W) (h2 : t = false → WSs X ex B ρ W) : WS X ex (.If c A B pos) ρ W := ⟨fun E σ G H S =>
  of_ps (ps_if sem_pt sem_pss sem_pss) (tSemT_mono (hc E σ G H S) fun b H1 ⟨e, G1, g⟩ => by
    subst e
    cases b with
    | true => rw [if_pos rfl]; exact (h1 rfl).go (S.grow g) g.g
    | false => rw [if_neg Bool.false_ne_true]; exact (h2 rfl).go (S.grow g) g.g)⟩

/-! ### x = e -/
theorem set_own {K : PySem.W.Frag} {E : Hp × Hp} {ρ : List O} {σ : L2.St} {G H G' H' : Hp} {o : O} {v : V} (S : SOk K E ρ σ G H) (g : Grow G H G' H') (q : OOk K H G' H' o v) (i : Nat) : SOk K E (ρ.set i o) (σ.set i (some v)) G' H' :=
  (S.grow g).set i (q.h0 S.h0) fun ho j b w => by
    cases o with
    | ml ds =>
      obtain ⟨a, xs, rfl, h1, h2, h3, r⟩ := q
      obtain ⟨_, _, _, w1, _⟩ := S.own_lst w
      intro z; cases z
      rw [h3] at w1; cases w1
    | un => exact absurd ho Bool.false_ne_true
    | va d => exact absurd ho Bool.false_ne_true
    | rf a => exact absurd ho Bool.false_ne_true
theorem ws_set (i : Nat) {P : O → Prop} (h : EO X ex e ρ P) (k : ∀ o, P o → W.nx (ρ.set i o)) (hN : X.N.Nodup) (hi : X.N[i]? = some x := by rfl) (hx : Loc X.env.scope x := by first | exact Or.inl rfl | exact Or.inr rfl) (hs : swapsWith e (some (.Name x pos')) pos.line X.env = pure false := by rfl) (hf : X.fn x = true ∨ X.env.scope.names.lookup x = some .local := by first | exact .inl rfl | exact .inr rfl) :
    WS X ex (.Assign [.Name x pos'] e pos) ρ W := ⟨fun E σ G H S =>
  of_ps (ps_set hN hi hx sem_pe hs hf) (tSem_mono (h E σ G H S) fun v H1 ⟨o, G1, g, q, p⟩ => ⟨_, G1, set_own S.toSOk g q i, g.g, k o p⟩)⟩
theorem ws_setE (i : Nat) (h : EE X ex e ρ d) (k : W.nx (ρ.set i (.va d))) (hN : X.N.Nodup) (hi : X.N[i]? = some x := by rfl) (hx : Loc X.env.scope x := by first | exact Or.inl rfl | exact Or.inr rfl) (hs : swapsWith e (some (.Name x pos')) pos.line X.env = pure false := by rfl) (hf : X.fn x = true ∨ X.env.scope.names.lookup x = some .local := by first | exact .inl rfl | exact .inr rfl) :
    WS X ex (.Assign [.Name x pos'] e pos) ρ W := ws_set i h.eo (fun o p => p ▸ k) hN hi hx hs hf
theorem ws_setM (i : Nat) (h : EO X ex e ρ (fun o => o = .ml ds)) (k : W.nx (ρ.set i (.ml ds))) (hN : X.N.Nodup) (hi : X.N[i]? = some x := by rfl) (hx : Loc X.env.scope x := by first | exact Or.inl rfl | exact Or.inr rfl) (hs : swapsWith e (some (.Name x pos')) pos.line X.env = pure false := by rfl) (hf : X.fn x = true ∨ X.env.scope.names.lookup x = some .local := by first | exact .inl rfl | exact .inr rfl) :
    WS X ex (.Assign [.Name x pos'] e pos) ρ W := ws_set i h (fun o p => p ▸ k) hN hi hx hs hf
/-- a, b = e1, e2 with local names -/
theorem ws_par (i j : Nat) {x y : Str} {a b : Expr} {d1 d2 : D} {px py pt : Pos} {kt k2 pt2} (ha : EA X ex [a, b] ρ [d1, d2]) (k : W.nx ((ρ.set i (.va d1)).set j (.va d2))) (hN : X.N.Nodup) (hc : X.calm = true := by rfl) (hi : X.N[i]? = some x := by rfl) (hj : X.N[j]? = some y := by rfl) (hij : i ≠ j := by decide)
    (hx : X.env.scope.names.lookup x = some .local := by rfl) (hy : X.env.scope.names.lookup y = some .local := by rfl) (hw : swappedStores [.Tuple [.Name x px, .Name y py] kt pt] (.Tuple [a, b] k2 pt2) X.env = pure (some [x, y]) := by rfl)
    (hs : swapsWithSole [.Tuple [.Name x px, .Name y py] kt pt] (.Tuple [a, b] k2 pt2) pos.line X.env = pure false := by rfl) :
    WS X ex (.Assign [.Tuple [.Name x px, .Name y py] kt pt] (.Tuple [a, b] k2 pt2) pos) ρ W := ⟨fun E σ G H S =>
  of_ps (ps_par hc hN hi hj hij hx hy sem_pa hw hs) (tSemA_mono (ha E σ G H S) fun vs H1 ⟨G1, g, r⟩ => by
    obtain ⟨v, w, rfl, r1, r2⟩ := r.of2
    refine ⟨v, w, rfl, _, G1, ?_, g.g, k⟩
    exact ((S.grow g).set i (o := .va d1) r1 fun h => absurd h Bool.false_ne_true).set j (o := .va d2) r2 fun h => absurd h Bool.false_ne_true)⟩
/-- x += e of ints -/
theorem ws_iadd (i : Nat) {n m : Int} (hr : ρ[i]? = some (.va (.int n))) (h : EE X ex e ρ (.int m)) (k : W.nx (ρ.set i (.va (.int (n + m))))) (hN : X.N.Nodup) (hi : X.N[i]? = some x := by rfl) (hx : Loc X.env.scope x := by first | exact Or.inl rfl | exact Or.inr rfl) (hf : X.fn x = true ∨ X.env.scope.names.lookup x = some .local := by first | exact .inl rfl | exact .inr rfl) :
    WS X ex (.AugAssign (.Name x pos') .Add e pos) ρ W := ⟨fun E σ G H S => by
  obtain ⟨v, h1, r⟩ := S.get hr
  cases r
  exact of_ps (ps_aug hN hi hx sem_pe ip_add hf) ⟨_, h1, tSem_mono (h E σ G H S) fun w H1 ⟨G1, g, r1⟩ => by
    cases r1
    exact ⟨n, m, rfl, rfl, _, G1, (S.grow g).set i (o := .va (.int (n + m))) (.int _) fun h => absurd h Bool.false_ne_true, g.g, k⟩⟩⟩

/-! ### lists of one's own -/
/-- the list in slot i changes -/
theorem SOk.lstTo {K : PySem.W.Frag} {E : Hp × Hp} {σ : L2.St} {G H : Hp} {a : Addr} {xs ys : List V} {es : List D} (S : SOk K E ρ σ G H) (hr : ρ[i]? = some (.ml ds)) (h1 : σ[i]? = some (some (.ref a))) (h2 : H a = some (.lst xs)) (h3 : G a = none) (h4 : E.2 a = none) (r : RepL K G ys es) :
    SOk K E (ρ.set i (.ml es)) σ G (upd H a (.lst ys)) := by
  have wi : Own ρ σ i a := ⟨⟨_, hr, rfl⟩, h1⟩
  have li : i < ρ.length := (List.getElem?_eq_some_iff.mp hr).1
  refine ⟨S.g0, S.gh.mut h3, S.h0.mut h4, S.fr, by rw [List.length_set]; exact S.len, fun j u e => ?_, fun j k b hj hk => ?_⟩
  · rcases set_at e with ⟨hj, hu, l⟩ | ⟨ne, e'⟩
    · subst hj hu
      exact .inr ⟨.ref a, h1, a, ys, rfl, upd_same, h3, h4, r⟩
    · rcases S.at' j u e' with h | ⟨v, s, q⟩
      · exact .inl h
      · refine .inr ⟨v, s, ?_⟩
        cases u with
        | un => trivial
        | va d => exact q
        | rf a => exact q
        | ml fs =>
          obtain ⟨b, zs, rfl, k1, k2, k3, r'⟩ := q
          have nb : b ≠ a := fun z => by
            subst z
            exact ne (S.apart i j b wi ⟨⟨_, e', rfl⟩, s⟩)
          exact ⟨b, zs, rfl, by rw [upd_ne nb]; exact k1, k2, k3, r'⟩
  · have back : ∀ j, Own (ρ.set i (.ml es)) σ j b → Own ρ σ j b := fun j ⟨⟨o, e, p⟩, s⟩ => by
      rcases set_at e with ⟨hj, ho, l⟩ | ⟨ne, e'⟩
      · subst hj; exact ⟨⟨_, hr, rfl⟩, s⟩
      · exact ⟨⟨o, e', p⟩, s⟩
    exact S.apart j k b (back j hj) (back k hk)
/-- xs.append(e) -/
theorem ws_append (i : Nat) {cpos apos npos : Pos} (hr : ρ[i]? = some (.ml ds)) (h : EE X ex e ρ d) (hl : ds.length < sizeLine) (k : W.nx (ρ.set i (.ml (ds ++ [d])))) (hN : X.N[i]? = some x := by rfl) (hv : Vis X.env.scope x := by first | exact Or.inl rfl | exact Or.inr (Or.inl rfl) | exact Or.inr (Or.inr rfl)) (hd : (x == ("__debug__" : Str)) = false := by decide)
    (hcd : (x == ("__classdict__" : Str)) = false := by decide) (hbase : attributeBase (.Name x npos) "append" X.env (eval (.Name x npos) X.env) = eval (.Name x npos) X.env := by rfl)
    (hfew : ((backTo cpos (starEach [e] X.env)).all (fun x => !x.1) && (backToKw cpos (keywordEach [] X.env)).all (fun x => x.1.isSome)
      && decide (([e] : List Expr).length + ([] : List Keyword).length + (if ([] : List Keyword).isEmpty then 0 else 1) < 30)) = true := by rfl)
    (hline : (apos.endLine == cpos.line) = true := by rfl) (hst : starEach [e] X.env = (false, eval e X.env) :: starEach [] X.env := by rfl) (hplain : (backTo cpos (starEach [] X.env)).any (·.1) = false := by rfl)
    (hs : swapsWith (.Call (.Attribute (.Name x npos) "append" apos) [e] [] cpos) none pos.line X.env = pure false := by rfl) :
    WS X ex (.Expr (.Call (.Attribute (.Name x npos) "append" apos) [e] [] cpos) pos) ρ W := ⟨fun E σ G H S => by
  obtain ⟨a, xs, h1, h2, h3, h4, r⟩ := S.getL hr
  refine of_ps (ps_expr (pe_bm PySem.F.plainAttrs_list PySem.F.slot_list_append PySem.F.type_list_append mt_append (pe_var hN hv hd hcd) (pa_cons sem_pe pa_nil hst) hbase hfew hline hst hplain) hs) ?_
  refine ⟨.ref a, h1, .inl ⟨rfl, xs, .inl (.inl h2)⟩, tSem_mono (h E σ G H S) fun v H1 ⟨G1, g, r1⟩ => ?_⟩
  have S1 := S.grow g
  obtain ⟨a', xs', h1', h2', h3', h4', r'⟩ := S1.getL hr
  rw [h1] at h1'; cases h1'
  refine ⟨a, xs', v, rfl, rfl, h2', by rw [r'.length]; exact hl, _, G1, S1.lstTo hr h1 h2' h3' h4' (r'.append (.one r1)), g.g, k⟩⟩
/-- x = xs.pop() -/
theorem ws_pop (i j : Nat) {y : Str} {cpos apos npos ypos : Pos} (hr : ρ[i]? = some (.ml ds)) (hne : ds[ds.length - 1]? = some d) (k : W.nx ((ρ.set i (.ml ds.dropLast)).set j (.va d))) (hNd : X.N.Nodup) (hN : X.N[i]? = some x := by rfl) (hj : X.N[j]? = some y := by rfl) (hv : Vis X.env.scope x := by first | exact Or.inl rfl | exact Or.inr (Or.inl rfl) | exact Or.inr (Or.inr rfl)) (hd : (x == ("__debug__" : Str)) = false := by decide)
    (hcd : (x == ("__classdict__" : Str)) = false := by decide) (hbase : attributeBase (.Name x npos) "pop" X.env (eval (.Name x npos) X.env) = eval (.Name x npos) X.env := by rfl) (hline : (apos.endLine == cpos.line) = true := by rfl) (hx : Loc X.env.scope y := by first | exact Or.inl rfl | exact Or.inr rfl)
    (hs : swapsWith (.Call (.Attribute (.Name x npos) "pop" apos) [] [] cpos) (some (.Name y ypos)) pos.line X.env = pure false := by rfl) (hf : X.fn y = true ∨ X.env.scope.names.lookup y = some .local := by first | exact .inl rfl | exact .inr rfl) :
    WS X ex (.Assign [.Name y ypos] (.Call (.Attribute (.Name x npos) "pop" apos) [] [] cpos) pos) ρ W := ⟨fun E σ G H S => by
  obtain ⟨a, xs, h1, h2, h3, h4, r⟩ := S.getL hr
  have hne' : xs[xs.length - 1]? = xs[ds.length - 1]? := by rw [r.length]
  obtain ⟨v, hv1, rv⟩ := r.get hne
  refine of_ps (ps_set hNd hj hx (pe_bm0 PySem.F.plainAttrs_list PySem.F.slot_list_pop PySem.F.type_list_pop mt_pop (pe_var hN hv hd hcd) hbase hline) hs hf) ?_
  refine ⟨.ref a, h1, .inl ⟨rfl, xs, .inl (.inl h2)⟩, a, xs, v, rfl, rfl, h2, hne'.trans hv1, ?_⟩
  refine ⟨_, G, ((S.lstTo hr h1 h2 h3 h4 r.dropLast).set j (o := .va d) rv fun h => absurd h Bool.false_ne_true), Ex.refl _, k⟩⟩
/-- xs.clear() -/
theorem ws_clear (i : Nat) {cpos apos npos : Pos} (hr : ρ[i]? = some (.ml ds)) (k : W.nx (ρ.set i (.ml []))) (hN : X.N[i]? = some x := by rfl) (hv : Vis X.env.scope x := by first | exact Or.inl rfl | exact Or.inr (Or.inl rfl) | exact Or.inr (Or.inr rfl)) (hd : (x == ("__debug__" : Str)) = false := by decide)
    (hcd : (x == ("__classdict__" : Str)) = false := by decide) (hbase : attributeBase (.Name x npos) "clear" X.env (eval (.Name x npos) X.env) = eval (.Name x npos) X.env := by rfl) (hline : (apos.endLine == cpos.line) = true := by rfl)
    (hs : swapsWith (.Call (.Attribute (.Name x npos) "clear" apos) [] [] cpos) none pos.line X.env = pure false := by rfl) :
    WS X ex (.Expr (.Call (.Attribute (.Name x npos) "clear" apos) [] [] cpos) pos) ρ W := ⟨fun E σ G H S => by
  obtain ⟨a, xs, h1, h2, h3, h4, r⟩ := S.getL hr
  refine of_ps (ps_expr (pe_bm0 PySem.F.plainAttrs_list PySem.F.slot_list_clear PySem.F.type_list_clear mt_clear (pe_var hN hv hd hcd) hbase hline) hs) ?_
  exact ⟨.ref a, h1, .inl ⟨rfl, xs, .inl (.inl h2)⟩, a, xs, rfl, rfl, h2, _, G, S.lstTo hr h1 h2 h3 h4 .nil, Ex.refl _, k⟩⟩

/-! ### an owned list as data -/
theorem SOk.frozen {K : PySem.W.Frag} {E : Hp × Hp} {σ : L2.St} {G H : Hp} (S : SOk K E ρ σ G H) (hr : ρ[i]? = some (.ml ds)) : ∃ a xs, σ[i]? = some (some (.ref a)) ∧ H a = some (.lst xs) ∧ G a = none ∧ E.2 a = none ∧ RepL K G xs ds ∧ SOk K E (ρ.set i (.va (.lst ds))) σ (upd G a (.lst xs)) H := by
  obtain ⟨a, xs, h1, h2, h3, h4, r⟩ := S.getL hr
  have wi : Own ρ σ i a := ⟨⟨_, hr, rfl⟩, h1⟩
  have ex : Ex (upd G a (.lst xs)) H := fun b u h => by
    by_cases z : b = a
    · subst z; rw [upd_same] at h; cases h; exact h2
    · rw [upd_ne z] at h; exact S.gh b u h
  refine ⟨a, xs, h1, h2, h3, h4, r, S.g0.trans (Ex.new h3), ex, S.h0, fun b h q => ?_, by rw [List.length_set]; exact S.len, fun j u e => ?_, fun j k b hj hk => ?_⟩
  · by_cases z : b = a
    · subst z; exact h4
    · rw [upd_ne z] at q; exact S.fr b h q
  · rcases set_at e with ⟨hj, hu, l⟩ | ⟨ne, e'⟩
    · subst hj hu
      exact .inr ⟨.ref a, h1, .lst (.inl (.inl upd_same)) (r.mono (Ex.new h3))⟩
    · rcases S.at' j u e' with h | ⟨v, s, q⟩
      · exact .inl h
      · refine .inr ⟨v, s, ?_⟩
        cases u with
        | un => trivial
        | va d => exact Rep.mono (Ex.new h3) q
        | rf a => exact q
        | ml fs =>
          obtain ⟨b, zs, rfl, k1, k2, k3, r'⟩ := q
          have nb : b ≠ a := fun z => by
            subst z
            exact ne (S.apart i j b wi ⟨⟨_, e', rfl⟩, s⟩)
          exact ⟨b, zs, rfl, k1, by rw [upd_ne nb]; exact k2, k3, r'.mono (Ex.new h3)⟩
  · have back : ∀ j, Own (ρ.set i (.va (.lst ds))) σ j b → Own ρ σ j b := fun j ⟨⟨o, e, p⟩, s⟩ => by
      rcases set_at e with ⟨hj, ho, l⟩ | ⟨ne, e'⟩
      · subst hj ho; exact absurd p Bool.false_ne_true
      · exact ⟨⟨o, e', p⟩, s⟩
    exact S.apart j k b (back j hj) (back k hk)
/-- from here on the list does not change any more -/
theorem ws_freeze (i : Nat) {sts : List Stmt} (hr : ρ[i]? = some (.ml ds)) (h : WSs X ex sts (ρ.set i (.va (.lst ds))) W) : WSs X ex sts ρ W := ⟨fun E σ G H S => by
  obtain ⟨a, xs, h1, h2, h3, h4, r, S'⟩ := S.frozen hr
  exact h.go (S.at S' (Ex.new h3)) (Ex.new h3)⟩
/-- the borrowed list is given back -/
theorem unfreeze {K : PySem.W.Frag} {E : Hp × Hp} {σ : L2.St} {G H G' H' : Hp} {a : Addr} {xs : List V} (S : SOk K E ρ σ G H) (h2 : H a = some (.lst xs)) (h3 : G a = none) (g : Grow (upd G a (.lst xs)) H G' H') : Grow G H (del G' a) H' := by
  refine ⟨fun b u e => ?_, g.h, del_ex.trans g.gh, fun b h q => ?_⟩
  · have nb : b ≠ a := ne_of_none e h3
    rw [del_ne nb]
    exact g.g b u (by rw [upd_ne nb]; exact e)
  · by_cases z : b = a
    · subst z; rw [del_same] at q; exact absurd rfl q
    · rw [del_ne z] at q; exact g.fr b (by rw [upd_ne z]; exact h) q
theorem ee_bor (i : Nat) (hr : ρ[i]? = some (.ml ds)) (h : EE X ex e (ρ.set i (.va (.lst ds))) d) (hn : d.noL = true) : EE X ex e ρ d := ⟨fun E σ G H S => by
  obtain ⟨a, xs, h1, h2, h3, h4, r, S'⟩ := S.frozen hr
  refine tSem_mono (h E σ _ H (S.at S' (Ex.new h3))) fun v H' ⟨G', g, rv⟩ => ⟨del G' a, unfreeze S.toSOk h2 h3 g, ?_⟩
  exact rv.del (g.g a _ upd_same) hn⟩
theorem et_bor (i : Nat) {t : Bool} (hr : ρ[i]? = some (.ml ds)) (h : ET X ex e (ρ.set i (.va (.lst ds))) t) : ET X ex e ρ t := ⟨fun E σ G H S => by
  obtain ⟨a, xs, h1, h2, h3, h4, r, S'⟩ := S.frozen hr
  exact tSemT_mono (h E σ _ H (S.at S' (Ex.new h3))) fun v H' ⟨q, G', g⟩ => ⟨q, del G' a, unfreeze S.toSOk h2 h3 g⟩⟩
/-- .. where a new list of plain items comes back -/
theorem eo_bor (i : Nat) {es : List D} (hr : ρ[i]? = some (.ml ds)) (h : EO X ex e (ρ.set i (.va (.lst ds))) (fun o => o = .ml es)) (hn : D.noLs es = true) : EO X ex e ρ (fun o => o = .ml es) := ⟨fun E σ G H S => by
  obtain ⟨a, xs, h1, h2, h3, h4, r, S'⟩ := S.frozen hr
  refine tSem_mono (h E σ _ H (S.at S' (Ex.new h3))) fun v H' ⟨o, G', g, q, p⟩ => ?_
  subst p
  obtain ⟨b, ys, e1, k1, k2, k3, r'⟩ := q
  refine ⟨.ml es, del G' a, unfreeze S.toSOk h2 h3 g, ⟨b, ys, e1, k1, ?_, k3, r'.del (g.g a _ upd_same) hn⟩, rfl⟩
  by_cases z : b = a
  · subst z; exact del_same
  · rw [del_ne z]; exact k2⟩
/-- y = xs, a list of one's own that changes its name -/
theorem ws_move (i j : Nat) {y : Str} {npos ypos : Pos} (hr : ρ[i]? = some (.ml ds)) (hij : i ≠ j) (k : W.nx ((ρ.set i .un).set j (.ml ds))) (hNd : X.N.Nodup) (hN : X.N[i]? = some x := by rfl) (hj : X.N[j]? = some y := by rfl) (hv : Vis X.env.scope x := by first | exact Or.inl rfl | exact Or.inr (Or.inl rfl) | exact Or.inr (Or.inr rfl)) (hd : (x == ("__debug__" : Str)) = false := by decide)
    (hcd : (x == ("__classdict__" : Str)) = false := by decide) (hx : Loc X.env.scope y := by first | exact Or.inl rfl | exact Or.inr rfl)
    (hs : swapsWith (.Name x npos) (some (.Name y ypos)) pos.line X.env = pure false := by rfl) (hf : X.fn y = true ∨ X.env.scope.names.lookup y = some .local := by first | exact .inl rfl | exact .inr rfl) :
    WS X ex (.Assign [.Name y ypos] (.Name x npos) pos) ρ W := ⟨fun E σ G H S => by
  obtain ⟨a, xs, h1, h2, h3, h4, r⟩ := S.getL hr
  refine of_ps (ps_set hNd hj hx (pe_var hN hv hd hcd) hs hf) ⟨.ref a, h1, _, G, ?_, Ex.refl _, k⟩
  have S1 : SOk X.K E (ρ.set i .un) σ G H := by
    refine ⟨S.g0, S.gh, S.h0, S.fr, by rw [List.length_set]; exact S.len, fun j u e => ?_, fun j k b hj hk => ?_⟩
    · rcases set_at e with ⟨hj, hu, l⟩ | ⟨ne, e'⟩
      · exact .inl hu
      · exact S.at' j u e'
    · have back : ∀ j, Own (ρ.set i .un) σ j b → Own ρ σ j b := fun j ⟨⟨o, e, p⟩, s⟩ => by
        rcases set_at e with ⟨hj, ho, l⟩ | ⟨ne, e'⟩
        · subst hj ho; exact absurd p Bool.false_ne_true
        · exact ⟨⟨o, e', p⟩, s⟩
      exact S.apart j k b (back j hj) (back k hk)
  refine S1.set j (o := .ml ds) ⟨a, xs, rfl, h2, h3, h4, r⟩ fun _ m b w z => ?_
  cases z
  obtain ⟨⟨o, e, p⟩, s⟩ := w
  rcases set_at e with ⟨hj, ho, l⟩ | ⟨ne, e'⟩
  · subst hj ho; exact absurd p Bool.false_ne_true
  · exact ne (S.apart i m a ⟨⟨_, hr, rfl⟩, h1⟩ ⟨⟨o, e', p⟩, s⟩)⟩
end
end TG
/-! Loops, comprehensions, defs over plain data. -/
namespace TG
open PySem PySem.Spec PyProof.Rows L2

section
variable {X : Cx} {ex : Exs} {ρ : List O} {e : Expr} {body : List Stmt} {W : Eds} {d : D} {ds : List D} {pos pos' : Pos} {i : Nat} {x : Str}
/-- slots may be forgotten ahead of R -/
def Up (R : List O → Prop) (ρ : List O) : Prop := ∃ ρ', Le ρ ρ' ∧ R ρ'
theorem Up.of {R : List O → Prop} (h : R ρ) : Up R ρ := ⟨ρ, Le.refl ρ, h⟩
theorem sok_up {K : PySem.W.Frag} {E : Hp × Hp} {σ : L2.St} {G H : Hp} {R : List O → Prop} (S : SOk K E ρ σ G H) (h : Up R ρ) : ∃ ρ', SOk K E ρ' σ G H ∧ R ρ' := let ⟨ρ', l, r⟩ := h; ⟨ρ', S.le l, r⟩

/-! ### while -/
theorem ws_while {c : Expr} (R : Nat → List O → Prop) (m0 : Nat) (h0 : Up (R m0) ρ) (hp : PassesOwn (model X.prog X.w) X.A X.env X.xe)
    (hs : ∀ m ρ, R m ρ → ∃ t, ET X ex c ρ t ∧ (t = true → WSs X ex body ρ { nx := fun ρ' => ∃ m', m' < m ∧ Up (R m') ρ', ct := fun ρ' => ∃ m', m' < m ∧ Up (R m') ρ', bk := W.nx, rt := W.rt }) ∧ (t = false → W.nx ρ)) : WS X ex (.While c body [] pos) ρ W := ⟨fun E σ G H S =>
  of_ps (ps_while hp sem_pt sem_pss) ⟨fun m σ' H' => ∃ ρ' G', SOk X.K E ρ' σ' G' H' ∧ Ex G G' ∧ R m ρ', ⟨m0, let ⟨ρ', S', r⟩ := sok_up S.toSOk h0; ⟨ρ', G, S', Ex.refl _, r⟩⟩, fun m σ' H' ⟨ρ1, G1, S1, x1, r1⟩ => by
    obtain ⟨t, ht, h1, h2⟩ := hs m ρ1 r1
    refine tSemT_mono (ht E σ' G1 H' (S.at S1 x1)) fun b H2 ⟨eb, G2, g2⟩ => ?_
    subst eb
    cases b with
    | true =>
      rw [if_pos rfl]
      refine ⟨fun σ3 H3 => ∃ ρ3 G3, SOk X.K E ρ3 σ3 G3 H3 ∧ Ex G G3 ∧ ∃ m', m' < m ∧ Up (R m') ρ3, fun σ3 H3 ⟨ρ3, G3, S3, x3, m', lt, u⟩ => ?_, (h1 rfl).go (S.at (S1.grow g2) (x1.trans g2.g)) (x1.trans g2.g)⟩
      obtain ⟨ρ4, S4, r4⟩ := sok_up S3 u
      exact ⟨m', lt, ρ4, G3, S4, x3, r4⟩
    | false =>
      rw [if_neg Bool.false_ne_true]
      exact ⟨ρ1, G2, S1.grow g2, x1.trans g2.g, h2 rfl⟩⟩⟩

/-! ### for -/
/-- a target's own meaning -/
def tSemG (X : Cx) (tg : Expr) : L2.TG := fun v σ H Q => ∀ (pins : List (Addr × Obj)) (s : Shared) (u : Value), Inv X pins σ H s → RelV v u → wpAny (model X.prog X.w) X.A (assign tg X.env u) (fun _ s' => ∃ σ' H', Inv X pins σ' H' s' ∧ Q σ' H') X.xe s
def tSemGs (X : Cx) (ts : List Expr) : TGs := fun vs σ H Q => ∀ (pins : List (Addr × Obj)) (s : Shared) (us : List Value), Inv X pins σ H s → Vals vs us → wpAny (model X.prog X.w) X.A (assignInOrder ((assignEach ts X.env).map (·.2)) us) (fun _ s' => ∃ σ' H', Inv X pins σ' H' s' ∧ Q σ' H') X.xe s
theorem sem_pg {tg : Expr} : PG X tg (tSemG X tg) := ⟨fun pins s _ _ _ u _ I r h => h pins s u I r⟩
theorem sem_pgs {ts : List Expr} : PGs X ts (tSemGs X ts) := ⟨fun pins s _ _ _ us _ I r h => h pins s us I r⟩
theorem of_pg {tg : Expr} {t : L2.TG} (h : PG X tg t) {v : V} {σ : L2.St} {H : Hp} {Q : L2.St → Hp → Prop} (q : t v σ H Q) : tSemG X tg v σ H Q := fun pins s u I r => h.run pins s σ H v u Q I r q
theorem of_pgs {ts : List Expr} {t : TGs} (h : PGs X ts t) {vs : List V} {σ : L2.St} {H : Hp} {Q : L2.St → Hp → Prop} (q : t vs σ H Q) : tSemGs X ts vs σ H Q := fun pins s us I r => h.run pins s σ H vs us Q I r q
theorem tSemG_mono {tg : Expr} {v : V} {σ : L2.St} {H : Hp} {Q Q' : L2.St → Hp → Prop} (h : tSemG X tg v σ H Q) (k : ∀ σ' H', Q σ' H' → Q' σ' H') : tSemG X tg v σ H Q' := fun pins s u I r => thn (h pins s u I r) fun _ _ ⟨σ', H', I', q⟩ => ⟨σ', H', I', k _ _ q⟩
theorem tSemGs_mono {ts : List Expr} {vs : List V} {σ : L2.St} {H : Hp} {Q Q' : L2.St → Hp → Prop} (h : tSemGs X ts vs σ H Q) (k : ∀ σ' H', Q σ' H' → Q' σ' H') : tSemGs X ts vs σ H Q' := fun pins s us I r => thn (h pins s us I r) fun _ _ ⟨σ', H', I', q⟩ => ⟨σ', H', I', k _ _ q⟩
/-- the target takes d: the slots ρ become ρ' -/
structure ATg (X : Cx) (tg : Expr) (d : D) (ρ ρ' : List O) : Prop where
  run : ∀ (E : Hp × Hp) (σ : L2.St) (G H : Hp) (v : V), SOk X.K E ρ σ G H → Rep X.K G v d → tSemG X tg v σ H fun σ' H' => H' = H ∧ SOk X.K E ρ' σ' G H
instance {X : Cx} {tg : Expr} {d : D} {ρ ρ' : List O} : CoeFun (ATg X tg d ρ ρ') (fun _ => ∀ (E : Hp × Hp) (σ : L2.St) (G H : Hp) (v : V), SOk X.K E ρ σ G H → Rep X.K G v d → tSemG X tg v σ H fun σ' H' => H' = H ∧ SOk X.K E ρ' σ' G H) := ⟨ATg.run⟩

structure ATgs (X : Cx) (ts : List Expr) (ds : List D) (ρ ρ' : List O) : Prop where
  run : ∀ (E : Hp × Hp) (σ : L2.St) (G H : Hp) (vs : List V), SOk X.K E ρ σ G H → RepL X.K G vs ds → tSemGs X ts vs σ H fun σ' H' => H' = H ∧ SOk X.K E ρ' σ' G H
instance {X : Cx} {ts : List Expr} {ds : List D} {ρ ρ' : List O} : CoeFun (ATgs X ts ds ρ ρ') (fun _ => ∀ (E : Hp × Hp) (σ : L2.St) (G H : Hp) (vs : List V), SOk X.K E ρ σ G H → RepL X.K G vs ds → tSemGs X ts vs σ H fun σ' H' => H' = H ∧ SOk X.K E ρ' σ' G H) := ⟨ATgs.run⟩

theorem at_name (i : Nat) (hN : X.N.Nodup) (hi : X.N[i]? = some x := by rfl) (hx : Loc X.env.scope x := by first | exact Or.inl rfl | exact Or.inr rfl) (hf : X.fn x = true ∨ X.env.scope.names.lookup x = some .local := by first | exact .inl rfl | exact .inr rfl) : ATg X (.Name x pos) d ρ (ρ.set i (.va d)) := ⟨fun E σ G H v S r =>
  of_pg (pg_name hN hi hx hf) ⟨rfl, S.set i (o := .va d) r fun h => absurd h Bool.false_ne_true⟩⟩
theorem ats_nil : ATgs X [] [] ρ ρ := ⟨fun E σ G H vs S r => by
  cases r
  exact of_pgs pgs_nil ⟨rfl, rfl, S⟩⟩
theorem ats_cons {tg : Expr} {ts : List Expr} {ρ1 ρ2 : List O} (h : ATg X tg d ρ ρ1) (t : ATgs X ts ds ρ1 ρ2) (hs : (assignEach (tg :: ts) X.env).map (·.2) = assign tg X.env :: (assignEach ts X.env).map (·.2) := by rfl) : ATgs X (tg :: ts) (d :: ds) ρ ρ2 := ⟨fun E σ G H vs S r => by
  cases r with
  | cons r1 r2 =>
    refine of_pgs (pgs_cons sem_pg sem_pgs hs) ⟨_, _, rfl, tSemG_mono (h E σ G H _ S r1) fun σ' H' ⟨e, S'⟩ => ?_⟩
    subst e
    exact t E σ' G _ _ S' r2⟩
theorem at_tup {ts : List Expr} {k : Nat} {ρ1 : List O} (h : ATgs X ts ds ρ ρ1) (hc : X.calm = true := by rfl) (hn : (assignEach ts X.env).length = ds.length := by rfl) (hst : (assignEach ts X.env).findIdx? (·.1) = none := by rfl) : ATg X (.Tuple ts k pos) (.tup ds) ρ ρ1 := ⟨fun E σ G H v S r => by
  cases r with
  | tup h1 r1 =>
    exact of_pg (pg_tup hc sem_pgs hn hst) ⟨_, _, rfl, S.gh.t h1, by rw [r1.length], h E σ G H _ S r1⟩⟩
/-- a, b = e: e a tuple -/
theorem ws_unpack {ts : List Expr} {k : Nat} {ρ1 : List O} {pt : Pos} (h : EE X ex e ρ d) (ht : ATg X (.Tuple ts k pt) d ρ ρ1) (n : W.nx ρ1) (hs : swapsWithSole [.Tuple ts k pt] e pos.line X.env = pure false := by rfl) (hw : swappedStores [.Tuple ts k pt] e X.env = pure none := by rfl)
    (h1 : (assignEach [.Tuple ts k pt] X.env).map (·.2) = [assign (.Tuple ts k pt) X.env] := by rfl) : WS X ex (.Assign [.Tuple ts k pt] e pos) ρ W := ⟨fun E σ G H S =>
  of_ps (ps_asg sem_pe sem_pg hs hw h1) (tSem_mono (h E σ G H S) fun v H1 ⟨G1, g, r⟩ => tSemG_mono (ht E σ G1 H1 v (S.grow g) r) fun σ' H' ⟨e, S'⟩ => by
    subst e
    exact ⟨ρ1, G1, S', g.g, n⟩)⟩

/-- the invariant of a for over items: R by the turn -/
theorem ws_forL {iter tg : Expr} (R : Nat → List O → Prop) (h : EE X ex iter ρ (.lst ds)) (h0 : Up (R 0) ρ) (hp : PassesOwn (model X.prog X.w) X.A X.env X.xe)
    (hs : ∀ k d ρ, ds[k]? = some d → R k ρ → ∃ ρ', ATg X tg d ρ ρ' ∧ WSs X ex body ρ' { nx := Up (R (k + 1)), ct := Up (R (k + 1)), bk := W.nx, rt := W.rt }) (hd : ∀ ρ, R ds.length ρ → W.nx ρ) (hc : X.calm = true := by rfl)
    (hf : ∀ x, foldedSetIterable iter X.env x = pure x := by intro _; rfl) : WS X ex (.For tg iter body [] pos) ρ W := ⟨fun E σ G H S =>
  of_ps (ps_for hp hc (pi_list sem_pe) sem_pg sem_pss hf) (tSem_mono (h E σ G H S) fun v H1 ⟨G1, g, r⟩ => by
    cases r with
    | @lst a xs _ hl rl =>
      refine ⟨a, rfl, ⟨xs, g.gh.l hl⟩, for_list (K := X.K) (a := a) (xs := xs) (fun k σ' H' => ∃ ρ' G', SOk X.K E ρ' σ' G' H' ∧ Ex G1 G' ∧ R k ρ') ?_ (fun k σ' H' _ ⟨ρ', G', S', x', _⟩ => S'.gh.l (x'.l hl)) (fun k y σ' H' hk ⟨ρ', G', S', x', r'⟩ => ?_) fun σ' H' ⟨ρ', G', S', x', r'⟩ => ?_⟩
      · obtain ⟨ρ', S', r'⟩ := sok_up (S.grow g).toSOk h0
        exact ⟨ρ', G1, S', Ex.refl _, r'⟩
      · obtain ⟨d, hd', rd⟩ := rl.getV hk
        obtain ⟨ρ2, ht, hb⟩ := hs k d ρ' hd' r'
        refine tSemG_mono (ht E σ' G' H' y S' (rd.mono x')) fun σ2 H2 ⟨e, S2⟩ => ?_
        subst e
        have up : ∀ {σ3 : L2.St} {H3 : Hp}, (∃ ρ3 G3, SOk X.K E ρ3 σ3 G3 H3 ∧ Ex G' G3 ∧ Up (R (k + 1)) ρ3) → ∃ ρ' G', SOk X.K E ρ' σ3 G' H3 ∧ Ex G1 G' ∧ R (k + 1) ρ' := fun {σ3 H3} ⟨ρ3, G3, S3, x3, u⟩ => by
          obtain ⟨ρ4, S4, r4⟩ := sok_up S3 u
          exact ⟨ρ4, G3, S4, x'.trans x3, r4⟩
        exact tSemSs_mono (hb E σ2 G' _ (S.at S2 (g.g.trans x'))) (fun _ _ q => up q) (fun _ _ q => q) (fun _ _ ⟨ρ3, G3, S3, x3, q⟩ => ⟨ρ3, G3, S3, (g.g.trans x').trans x3, q⟩) (fun _ _ q => up q)
      · rw [rl.length] at r'
        exact ⟨ρ', G', S', g.g.trans x', hd ρ' r'⟩)⟩
theorem ws_forT {iter tg : Expr} (R : Nat → List O → Prop) (h : EE X ex iter ρ (.tup ds)) (h0 : Up (R 0) ρ) (hp : PassesOwn (model X.prog X.w) X.A X.env X.xe)
    (hs : ∀ k d ρ, ds[k]? = some d → R k ρ → ∃ ρ', ATg X tg d ρ ρ' ∧ WSs X ex body ρ' { nx := Up (R (k + 1)), ct := Up (R (k + 1)), bk := W.nx, rt := W.rt }) (hd : ∀ ρ, R ds.length ρ → W.nx ρ) (hc : X.calm = true := by rfl)
    (hf : ∀ x, foldedSetIterable iter X.env x = pure x := by intro _; rfl) : WS X ex (.For tg iter body [] pos) ρ W := ⟨fun E σ G H S =>
  of_ps (ps_for hp hc (pi_tup sem_pe) sem_pg sem_pss hf) (tSem_mono (h E σ G H S) fun v H1 ⟨G1, g, r⟩ => by
    cases r with
    | @tup a xs _ hl rl =>
      refine ⟨a, rfl, ⟨xs, g.gh.t hl⟩, for_tup (K := X.K) (a := a) (xs := xs) (fun k σ' H' => ∃ ρ' G', SOk X.K E ρ' σ' G' H' ∧ Ex G1 G' ∧ R k ρ') ?_ (fun k σ' H' _ ⟨ρ', G', S', x', _⟩ => S'.gh.t (x'.t hl)) (fun k y σ' H' hk ⟨ρ', G', S', x', r'⟩ => ?_) fun σ' H' ⟨ρ', G', S', x', r'⟩ => ?_⟩
      · obtain ⟨ρ', S', r'⟩ := sok_up (S.grow g).toSOk h0
        exact ⟨ρ', G1, S', Ex.refl _, r'⟩
      · obtain ⟨d, hd', rd⟩ := rl.getV hk
        obtain ⟨ρ2, ht, hb⟩ := hs k d ρ' hd' r'
        refine tSemG_mono (ht E σ' G' H' y S' (rd.mono x')) fun σ2 H2 ⟨e, S2⟩ => ?_
        subst e
        have up : ∀ {σ3 : L2.St} {H3 : Hp}, (∃ ρ3 G3, SOk X.K E ρ3 σ3 G3 H3 ∧ Ex G' G3 ∧ Up (R (k + 1)) ρ3) → ∃ ρ' G', SOk X.K E ρ' σ3 G' H3 ∧ Ex G1 G' ∧ R (k + 1) ρ' := fun {σ3 H3} ⟨ρ3, G3, S3, x3, u⟩ => by
          obtain ⟨ρ4, S4, r4⟩ := sok_up S3 u
          exact ⟨ρ4, G3, S4, x'.trans x3, r4⟩
        exact tSemSs_mono (hb E σ2 G' _ (S.at S2 (g.g.trans x'))) (fun _ _ q => up q) (fun _ _ q => q) (fun _ _ ⟨ρ3, G3, S3, x3, q⟩ => ⟨ρ3, G3, S3, (g.g.trans x').trans x3, q⟩) (fun _ _ q => up q)
      · rw [rl.length] at r'
        exact ⟨ρ', G', S', g.g.trans x', hd ρ' r'⟩)⟩
theorem sok_turn {K : PySem.W.Frag} {E : Hp × Hp} {G G1 G' : Hp} {R : List O → Prop} (x' : Ex G1 G') {σ3 : L2.St} {H3 : Hp} (h : ∃ ρ3 G3, SOk K E ρ3 σ3 G3 H3 ∧ Ex G' G3 ∧ Up R ρ3) : ∃ ρ' G', SOk K E ρ' σ3 G' H3 ∧ Ex G1 G' ∧ R ρ' := by
  obtain ⟨ρ3, G3, S3, x3, u⟩ := h
  obtain ⟨ρ4, S4, r4⟩ := sok_up S3 u
  exact ⟨ρ4, G3, S4, x'.trans x3, r4⟩
/-- for k in range(n) -/
theorem ws_forR {a tg : Expr} {p cpos : Pos} {n : Int} (R : Nat → List O → Prop) (hm : X.mg "range" = none) (h : EA X ex [a] ρ [.int n]) (h0 : Up (R 0) ρ) (hp : PassesOwn (model X.prog X.w) X.A X.env X.xe)
    (hs : ∀ (k : Nat) ρ, (k : Int) < n → R k ρ → ∃ ρ', ATg X tg (.int (k : Int)) ρ ρ' ∧ WSs X ex body ρ' { nx := Up (R (k + 1)), ct := Up (R (k + 1)), bk := W.nx, rt := W.rt }) (hd : ∀ ρ, R n.toNat ρ → W.nx ρ)
    (hn : -(2 ^ 62) ≤ n ∧ n < 2 ^ 62) (hc : X.calm = true := by rfl) (hg : Gl X "range" := by rfl)
    (hst : starEach [a] X.env = [(false, eval a X.env)] := by rfl) (hf : ∀ x, foldedSetIterable (.Call (.Name "range" p) [a] [] cpos) X.env x = pure x := by intro _; rfl) : WS X ex (.For tg (.Call (.Name "range" p) [a] [] cpos) body [] pos) ρ W := ⟨fun E σ G H S =>
  of_ps (ps_for hp hc (pi_range1 hg hm sem_pa hst) sem_pg sem_pss hf) (tSemA_mono (h E σ G H S) fun vs H1 ⟨G1, g, r⟩ => by
    obtain ⟨v, rfl, r1⟩ := r.of1
    cases r1
    refine ⟨n, rfl, hn.1, hn.2, for_range (lo := 0) (n := n.toNat) (fun k σ' H' => ∃ ρ' G', SOk X.K E ρ' σ' G' H' ∧ Ex G1 G' ∧ R k ρ') ?_ (fun k σ' H' hk ⟨ρ', G', S', x', r'⟩ => ?_) fun σ' H' ⟨ρ', G', S', x', r'⟩ => ⟨ρ', G', S', g.g.trans x', hd ρ' r'⟩⟩
    · obtain ⟨ρ', S', r'⟩ := sok_up (S.grow g).toSOk h0
      exact ⟨ρ', G1, S', Ex.refl _, r'⟩
    · obtain ⟨ρ2, ht, hb⟩ := hs k ρ' (by omega) r'
      rw [Int.zero_add]
      refine tSemG_mono (ht E σ' G' H' _ S' (.int _)) fun σ2 H2 ⟨e, S2⟩ => ?_
      subst e
      exact tSemSs_mono (hb E σ2 G' _ (S.at S2 (g.g.trans x'))) (fun _ _ q => sok_turn (G := G) x' q) (fun _ _ q => q) (fun _ _ ⟨ρ3, G3, S3, x3, q⟩ => ⟨ρ3, G3, S3, (g.g.trans x').trans x3, q⟩) (fun _ _ q => sok_turn (G := G) x' q))⟩
/-- for k in range(lo, hi) -/
theorem ws_forR2 {a b tg : Expr} {p cpos : Pos} {lo n : Int} (R : Nat → List O → Prop) (hm : X.mg "range" = none) (h : EA X ex [a, b] ρ [.int lo, .int n]) (h0 : Up (R 0) ρ) (hp : PassesOwn (model X.prog X.w) X.A X.env X.xe)
    (hs : ∀ (k : Nat) ρ, lo + (k : Int) < n → R k ρ → ∃ ρ', ATg X tg (.int (lo + (k : Int))) ρ ρ' ∧ WSs X ex body ρ' { nx := Up (R (k + 1)), ct := Up (R (k + 1)), bk := W.nx, rt := W.rt }) (hd : ∀ ρ, R (n - lo).toNat ρ → W.nx ρ)
    (hn : -(2 ^ 62) ≤ lo ∧ lo < 2 ^ 62 ∧ -(2 ^ 62) ≤ n ∧ n < 2 ^ 62) (hc : X.calm = true := by rfl) (hg : Gl X "range" := by rfl)
    (hst : starEach [a, b] X.env = [(false, eval a X.env), (false, eval b X.env)] := by rfl) (hst2 : starEach [b] X.env = [(false, eval b X.env)] := by rfl) (hf : ∀ x, foldedSetIterable (.Call (.Name "range" p) [a, b] [] cpos) X.env x = pure x := by intro _; rfl) : WS X ex (.For tg (.Call (.Name "range" p) [a, b] [] cpos) body [] pos) ρ W := ⟨fun E σ G H S =>
  of_ps (ps_for hp hc (pi_range2 hg hm sem_pa hst hst2) sem_pg sem_pss hf) (tSemA_mono (h E σ G H S) fun vs H1 ⟨G1, g, r⟩ => by
    obtain ⟨v, w, rfl, r1, r2⟩ := r.of2
    cases r1; cases r2
    refine ⟨lo, n, rfl, hn, for_range (lo := lo) (n := (n - lo).toNat) (fun k σ' H' => ∃ ρ' G', SOk X.K E ρ' σ' G' H' ∧ Ex G1 G' ∧ R k ρ') ?_ (fun k σ' H' hk ⟨ρ', G', S', x', r'⟩ => ?_) fun σ' H' ⟨ρ', G', S', x', r'⟩ => ⟨ρ', G', S', g.g.trans x', hd ρ' r'⟩⟩
    · obtain ⟨ρ', S', r'⟩ := sok_up (S.grow g).toSOk h0
      exact ⟨ρ', G1, S', Ex.refl _, r'⟩
    · obtain ⟨ρ2, ht, hb⟩ := hs k ρ' (by omega) r'
      refine tSemG_mono (ht E σ' G' H' _ S' (.int _)) fun σ2 H2 ⟨e, S2⟩ => ?_
      subst e
      exact tSemSs_mono (hb E σ2 G' _ (S.at S2 (g.g.trans x'))) (fun _ _ q => sok_turn (G := G) x' q) (fun _ _ q => q) (fun _ _ ⟨ρ3, G3, S3, x3, q⟩ => ⟨ρ3, G3, S3, (g.g.trans x').trans x3, q⟩) (fun _ _ q => sok_turn (G := G) x' q))⟩
end

/-! ### a def keeps its promise -/
/-- the slots at the entry -/
def slots (n : Nat) (ds : List D) : List O := ds.map O.va ++ List.replicate (n - ds.length) .un
theorem sok_start {K : PySem.W.Frag} {G H : Hp} {vs : List V} {ds : List D} {N : List Str} (e : Ex G H) (r : RepL K G vs ds) : SOk K (G, H) (slots N.length ds) (start N vs) G H := by
  have hlen := r.length
  refine ⟨Ex.refl _, e, Ex.refl _, fun b h q => absurd h q, ?_, fun i o h => ?_, fun i j a hi _ => ?_⟩
  · unfold slots L2.start
    rw [List.length_append, List.length_append, List.length_map, List.length_map, List.length_replicate, List.length_replicate, hlen]
  · unfold slots at h
    by_cases hi : i < ds.length
    · rw [List.getElem?_append_left (by rw [List.length_map]; exact hi), List.getElem?_map] at h
      cases hd : ds[i]? with
      | none => rw [hd] at h; cases h
      | some d =>
        rw [hd] at h
        obtain rfl : O.va d = o := Option.some.inj h
        obtain ⟨v, hv, rv⟩ := r.get hd
        refine .inr ⟨v, ?_, rv⟩
        unfold L2.start
        rw [List.getElem?_append_left (by rw [List.length_map, hlen]; exact hi), List.getElem?_map, hv]; rfl
    · rw [List.getElem?_append_right (by rw [List.length_map]; omega), List.getElem?_replicate] at h
      split at h
      · exact .inl (Option.some.inj h).symm
      · cases h
  · obtain ⟨⟨o, h, p⟩, _⟩ := hi
    unfold slots at h
    by_cases hi : i < ds.length
    · rw [List.getElem?_append_left (by rw [List.length_map]; exact hi), List.getElem?_map] at h
      cases hd : ds[i]? with
      | none => rw [hd] at h; cases h
      | some d =>
        rw [hd] at h
        obtain rfl : O.va d = o := Option.some.inj h
        exact absurd p Bool.false_ne_true
    · rw [List.getElem?_append_right (by rw [List.length_map]; omega), List.getElem?_replicate] at h
      split at h
      · obtain rfl := Option.some.inj h
        exact absurd p Bool.false_ne_true
      · cases h
section
variable {P : Program} {w : World} {K : PySem.W.Frag} {mg : Str → Option Value} {base : Heap}
/-- from the body's walk to the def's promise -/
theorem spec_ok {X : Cx} {S : Spc} {N : List Str} {body : List Stmt} {vs : List V} {H : Hp} {Q : VK} {E : XK} (hK : X.K = K) (h : spOf K S vs H Q E)
    (hb : ∀ ds (P : O → Prop), S.S ds P → WSs X noX body (slots N.length ds) { nx := fun _ => P (.va .non), rt := P }) :
    tSemSs X body { nx := fun _ H' => Q .non H', rt := Q } (start N vs) H := by
  subst hK
  obtain ⟨ds, G, e, r, h⟩ := h
  refine tSemSs_mono (hb ds _ h (G, H) _ G H (sok_start e r).nox) (fun σ' H' ⟨ρ', G', S', x, q⟩ => ?_) (fun v H' ⟨o, G', R, q⟩ => ?_) (fun _ _ ⟨_, _, _, _, q⟩ => q.elim) (fun _ _ ⟨_, _, _, _, q⟩ => q.elim)
  · exact q .non G' H' ⟨S'.g0, S'.h0, S'.gh, S'.fr⟩ .non
  · exact q v G' H' ⟨R.g0, R.h0, R.gh, R.fr⟩ R.ok
end
end TG
/-! Defs of the text over plain data: what stands (DefT), what may be called (Cal), the law's end. -/
namespace TG
open PySem PySem.Spec PyProof.Rows L2

/-- a def of the module's top, with its defaults -/
structure DefT (K : PySem.W.Frag) (mg : Str → Option Value) (x : Str) (st : Stmt) (ps : List Str) (dvs : List V) : Prop where
  ex : ∃ (f : Addr) (fd : FuncData), FunD K x x (defArgs st) (defBody st) (defScope st) dvs [] f fd ∧ mg x = some (.ref f) ∧ ∀ j ≤ dvs.length, ∃ ds, Vals (dvs.drop j) ds ∧ Binds K fd ps ds
/-- a def that keeps its promise, called with some of its defaults (dds) left out -/
structure Cal (P : Program) (w : World) (K : PySem.W.Frag) (mg : Str → Option Value) (base : Heap) (k : Nat) (x : Str) (S : Spc) (dds : List D) : Prop where
  ex : ∃ (f : Addr) (fd : FuncData) (ps : List Str) (dvs : List V) (dus : List Value), FnOk P w K mg base CX0 k f fd ps (spOf K S) ∧ mg x = some (.ref f) ∧ PySem.W.keepIn K (.ref f) = true ∧ Binds K fd ps dus ∧ Vals dvs dus ∧ ∀ G, RepL K G dvs dds
section
variable {P : Program} {w : World} {K : PySem.W.Frag} {mg : Str → Option Value} {base : Heap} {x : Str} {st : Stmt} {ps : List Str} {dvs : List V} {k : Nat} {S : Spc}
/-- the def's own heap of facts, once -/
theorem DefT.fn (T : DefT K mg x st ps dvs) {N : List Str} (Sc : FnScope N ps (defScope st)) (len : ∀ ds Q, S.S ds Q → ds.length = ps.length)
    (hbody : ∀ (f : Addr) (cdv : Value) (A : Around) (outer : List Env) (s : Shared) (H : Hp), Room k (A.deeper (envOfC x (defScope st) s.heap.objs.size f cdv)) → ∀ ds (Q : O → Prop), S.S ds Q →
      WSs (cxOf CX0 P w K mg base N x (defScope st) f cdv A outer s H E0).nox noX (defBody st) (slots N.length ds) { nx := fun _ => Q (.va .non), rt := Q }) :
    ∃ (f : Addr) (fd : FuncData), FnOk P w K mg base CX0 (k + 1) f fd ps (spOf K S) ∧ mg x = some (.ref f) ∧ PySem.W.keepIn K (.ref f) = true ∧ ∀ j ≤ dvs.length, ∃ ds, Vals (dvs.drop j) ds ∧ Binds K fd ps ds := by
  obtain ⟨f, fd, F, hm, hb⟩ := T.ex
  refine ⟨f, fd, F.ok Sc (fun vs H Q E ⟨ds, G, e, r, h⟩ => ?_) (fun cdv A outer s H vs Q E hr h => ?_), hm, F.kp, hb⟩
  · rw [r.length]; exact len ds _ h
  · exact ⟨tSemSs (cxOf CX0 P w K mg base N x (defScope st) f cdv A outer s H E).nox _, PSs.nox sem_pss, spec_ok (X := (cxOf CX0 P w K mg base N x (defScope st) f cdv A outer s H E).nox) rfl h fun ds P hS => hbody f cdv A outer s H hr ds P hS⟩
theorem cal_of (h : ∃ (f : Addr) (fd : FuncData), FnOk P w K mg base CX0 k f fd ps (spOf K S) ∧ mg x = some (.ref f) ∧ PySem.W.keepIn K (.ref f) = true ∧ ∀ j ≤ dvs.length, ∃ ds, Vals (dvs.drop j) ds ∧ Binds K fd ps ds)
    (j : Nat) (hj : j ≤ dvs.length) {dds : List D} (hd : ∀ G, RepL K G (dvs.drop j) dds) : Cal P w K mg base k x S dds := by
  obtain ⟨f, fd, F, hm, hk, hb⟩ := h
  obtain ⟨ds, r, b⟩ := hb j hj
  exact ⟨f, fd, ps, dvs.drop j, ds, F, hm, hk, b, r, hd⟩
theorem Cal.mono {j : Nat} {dds : List D} (C : Cal P w K mg base k x S dds) (h : k ≤ j) : Cal P w K mg base j x S dds := by
  obtain ⟨f, fd, ps, dvs, dus, F, r⟩ := C.ex
  exact ⟨f, fd, ps, dvs, dus, F.mono h, r⟩
theorem Cal.imp {S' : Spc} {dds : List D} (C : Cal P w K mg base k x S dds) (h : ∀ ds Q, S'.S ds Q → S.S ds Q) : Cal P w K mg base k x S' dds := by
  obtain ⟨f, fd, ps, dvs, dus, F, r⟩ := C.ex
  exact ⟨f, fd, ps, dvs, dus, F.imp (fun vs H Q E ⟨ds, G, e, r, q⟩ => ⟨ds, G, e, r, h _ _ q⟩), r⟩
end
section
variable {X : Cx} {ex : Exs} {ρ : List O} {e : Expr} {es : List Expr} {d : D} {ds dds : List D} {pos p : Pos} {k : Nat} {x : Str} {S : Spc} {P : O → Prop}
theorem eo_cal (C : Cal X.prog X.w X.K X.mg X.base k x S dds) (hr : Room k X.A) (ha : EA X ex (e :: es) ρ ds) (hq : S.S (ds ++ dds) P) (hg : Gl X x := by rfl) (hdb : (x == ("__debug__" : Str)) = false := by decide) (he : starEach (e :: es) X.env = (false, eval e X.env) :: starEach es X.env := by rfl) (hpl : (backTo pos (starEach es X.env)).any (·.1) = false := by rfl) :
    EO X ex (.Call (.Name x p) (e :: es) [] pos) ρ P := by
  obtain ⟨f, fd, ps, dvs, dus, F, hm, hk, hb, hv, hd⟩ := C.ex
  exact eo_call F hr hm hk hb hv hd pass0 ha hq hg hdb he hpl
theorem eo_cal0 (C : Cal X.prog X.w X.K X.mg X.base k x S dds) (hr : Room k X.A) (hq : S.S dds P) (hg : Gl X x := by rfl) (hdb : (x == ("__debug__" : Str)) = false := by decide) : EO X ex (.Call (.Name x p) [] [] pos) ρ P := by
  obtain ⟨f, fd, ps, dvs, dus, F, hm, hk, hb, hv, hd⟩ := C.ex
  exact eo_call0 F hr hm hk hb hv hd pass0 hq hg hdb
theorem ee_cal (C : Cal X.prog X.w X.K X.mg X.base k x S dds) (hr : Room k X.A) (ha : EA X ex (e :: es) ρ ds) (hq : S.S (ds ++ dds) (fun o => o = .va d)) (hg : Gl X x := by rfl) (hdb : (x == ("__debug__" : Str)) = false := by decide) (he : starEach (e :: es) X.env = (false, eval e X.env) :: starEach es X.env := by rfl) (hpl : (backTo pos (starEach es X.env)).any (·.1) = false := by rfl) :
    EE X ex (.Call (.Name x p) (e :: es) [] pos) ρ d := ee_va (eo_cal C hr ha hq hg hdb he hpl)
theorem fn_call {α : Type} {args : α → List D} {pre : α → Prop} {res : α → O} {Q : O → Prop} (y : α) (e : ds = args y) (h : pre y) (q : Q (res y)) : (Spc.fn args pre res).S ds Q := ⟨y, e, h, q⟩
theorem rel_call {α : Type} {args : α → List D} {pre : α → Prop} {post : α → O → Prop} {Q : O → Prop} (y : α) (e : ds = args y) (h : pre y) (q : ∀ o, post y o → Q o) : (Spc.rel args pre post).S ds Q := ⟨y, e, h, q⟩
/-- the slots written out -/
theorem ws_norm {sts : List Stmt} {W : Eds} {ρ ρ' : List O} (e : ρ = ρ') (h : WSs X ex sts ρ' W) : WSs X ex sts ρ W := e ▸ h
theorem nox_own {Y : Cx} : PassesOwn (model Y.nox.prog Y.nox.w) Y.nox.A Y.nox.env Y.nox.xe := PassesOwn.never
end
/-! ### built-ins by their names -/
theorem bt_int : bootBuiltins "int" = some (.type "int") := by decide +kernel
theorem bt_bool : bootBuiltins "bool" = some (.type "bool") := by decide +kernel
theorem bt_str : bootBuiltins "str" = some (.type "str") := by decide +kernel
theorem bt_tuple : bootBuiltins "tuple" = some (.type "tuple") := by decide +kernel
theorem bt_list : bootBuiltins "list" = some (.type "list") := by decide +kernel

/-! ### the law's end -/
def lawS : Spc := Spc.fn (α := List Int) (fun ns => [.lst (ns.map .int)]) (fun ns => ns.length ≤ 63) (fun _ => .va (.bl true))
theorem repL_ints {K : PySem.W.Frag} {G : Hp} : ∀ ns : List Int, RepL K G (ns.map V.int) (ns.map D.int)
  | [] => .nil
  | n :: r => .cons (.int n) (repL_ints r)
theorem law_sp (K : PySem.W.Frag) (H : Hp) (a : Addr) (ns : List Int) (hl : ns.length ≤ 63) (_ : Only H) (hS : SqL K H a (ns.map V.int)) : spOf K lawS [.ref a] H (fun v _ => v = .bl true) fun _ _ _ => False :=
  ⟨[.lst (ns.map .int)], H, Ex.refl _, .cons (.lst hS (repL_ints ns)) .nil, ns, rfl, hl, fun v G' H' g q => by
    have q' : Rep K G' v (.bl true) := q
    cases q'; rfl⟩
/-- what the last theorem wants of the law's def -/
theorem law_fin {P : Program} {w : World} {K : PySem.W.Frag} {mg : Str → Option Value} {k : Nat} {fa : Addr} {x : Str} {st : Stmt} (hfa : mg x = some (.ref fa)) (T : DefT K mg x st ["script"] [])
    (hb : ∀ (f : Addr) (fd : FuncData), FunD K x x (defArgs st) (defBody st) (defScope st) [] [] f fd → ∀ (s : Shared) (u : Value), BindsTo s fd ⟨[u], []⟩ [("script", u)])
    (h : ∀ base : Heap, K.In base → base.Ns mainGlobals mg → ∀ (f : Addr) (fd : FuncData), FunD K x x (defArgs st) (defBody st) (defScope st) [] [] f fd → FnOk P w K mg base CX0 k f fd ["script"] (spOf K lawS)) :
    ∃ fd : FuncData, (∀ (s : Shared) (u : Value), BindsTo s fd ⟨[u], []⟩ [("script", u)]) ∧ ∀ base : Heap, K.In base → base.Ns mainGlobals mg → FnOk P w K mg base CX0 k fa fd ["script"] (spOf K lawS) := by
  obtain ⟨f, fd, F, hm, _⟩ := T.ex
  rw [hfa] at hm; cases hm
  exact ⟨fd, hb _ _ F, fun base h1 h2 => h base h1 h2 _ _ F⟩
/-- the same as DefT.fn at a given address -/
theorem FunD.okD {P : Program} {w : World} {K : PySem.W.Frag} {mg : Str → Option Value} {base : Heap} {x : Str} {st : Stmt} {ps : List Str} {dvs : List V} {k : Nat} {S : Spc} {f : Addr} {fd : FuncData} (F : FunD K x x (defArgs st) (defBody st) (defScope st) dvs [] f fd) {N : List Str} (Sc : FnScope N ps (defScope st)) (len : ∀ ds Q, S.S ds Q → ds.length = ps.length)
    (hbody : ∀ (f : Addr) (cdv : Value) (A : Around) (outer : List Env) (s : Shared) (H : Hp), Room k (A.deeper (envOfC x (defScope st) s.heap.objs.size f cdv)) → ∀ ds (Q : O → Prop), S.S ds Q →
      WSs (cxOf CX0 P w K mg base N x (defScope st) f cdv A outer s H E0).nox noX (defBody st) (slots N.length ds) { nx := fun _ => Q (.va .non), rt := Q }) : FnOk P w K mg base CX0 (k + 1) f fd ps (spOf K S) := by
  refine F.ok Sc (fun vs H Q E ⟨ds, G, e, r, h⟩ => ?_) (fun cdv A outer s H vs Q E hr h => ?_)
  · rw [r.length]; exact len ds _ h
  · exact ⟨tSemSs (cxOf CX0 P w K mg base N x (defScope st) f cdv A outer s H E).nox _, PSs.nox sem_pss, spec_ok (X := (cxOf CX0 P w K mg base N x (defScope st) f cdv A outer s H E).nox) rfl h fun ds P hS => hbody f cdv A outer s H hr ds P hS⟩
/-- a def without defaults, as the end finds it -/
theorem defT_mk {K : PySem.W.Frag} {mg : Str → Option Value} {x : Str} {st : Stmt} {ps : List Str} {f : Addr} {oc : Value} {od an : Option Addr} {osl : Array (Option Value)} {kV doc pm cdv ct : Value} (hm : mg x = some (.ref f))
    (l : K.lookup f = some ⟨oc, od, .func (PySem.W.fnOf x x (defArgs st) (defBody st) (defScope st) .none kV doc pm an cdv ct), osl⟩) (c : PySem.W.codeIn K cdv x = true) (kp : PySem.W.keepIn K (.ref f) = true)
    (h : ∀ (kV doc pm : Value) (an : Option Addr) (cdv ct : Value) (us : List Value), us.length = ps.length → bindArgs (PySem.W.fnOf x x (defArgs st) (defBody st) (defScope st) .none kV doc pm an cdv ct) ⟨us, []⟩ = pure (ps.zip us)) : DefT K mg x st ps [] := by
  have F : FunD K x x (defArgs st) (defBody st) (defScope st) [] [] f _ := ⟨⟨oc, od, .none, kV, doc, pm, an, cdv, ct, osl, rfl, l, c, .inl ⟨rfl, rfl⟩, .inl rfl⟩, kp⟩
  exact ⟨f, _, F, hm, fun j hj => ⟨[], by rw [List.drop_nil]; exact .nil, F.bindsN h⟩⟩
/-- one with defaults -/
theorem defT_mkD {K : PySem.W.Frag} {mg : Str → Option Value} {x : Str} {st : Stmt} {ps : List Str} {f : Addr} {dvs : List V} {oc : Value} {od an : Option Addr} {osl : Array (Option Value)} {dV kV doc pm cdv ct : Value} (hm : mg x = some (.ref f))
    (l : K.lookup f = some ⟨oc, od, .func (PySem.W.fnOf x x (defArgs st) (defBody st) (defScope st) dV kV doc pm an cdv ct), osl⟩) (c : PySem.W.codeIn K cdv x = true) (kp : PySem.W.keepIn K (.ref f) = true) (hd : dvs ≠ [])
    (hD : ∃ (T : Addr) (o : Obj) (its : List Value) (n : Nat), dV = .ref T ∧ K.lookup T = some o ∧ o.data = .seq its.toArray n ∧ Vals dvs its) (hl : dvs.length ≤ ps.length)
    (h : ∀ j ≤ dvs.length, ∀ (T : Addr) (kV doc pm : Value) (an : Option Addr) (cdv ct : Value) (us its : List Value), us.length + (dvs.length - j) = ps.length → its.length = dvs.length →
      ∃ k, bindArgs (PySem.W.fnOf x x (defArgs st) (defBody st) (defScope st) (.ref T) kV doc pm an cdv ct) ⟨us, []⟩ = seqItems? (.ref T) >>= k ∧ k (some its.toArray) = pure (ps.zip (us ++ its.drop j))) : DefT K mg x st ps dvs := by
  have F : FunD K x x (defArgs st) (defBody st) (defScope st) dvs [] f _ := ⟨⟨oc, od, dV, kV, doc, pm, an, cdv, ct, osl, rfl, l, c, .inr ⟨hd, hD⟩, .inl rfl⟩, kp⟩
  exact ⟨f, _, F, hm, fun j hj => F.binds1 (ps.length - (dvs.length - j)) j hd (by omega) fun T kV doc pm an cdv ct us its hu hi => h j hj T kV doc pm an cdv ct us its (by omega) hi⟩
end TG
/-! Small things that the walks use; sizes; fractions. -/
namespace TG
open PySem PySem.Spec PyProof.Rows L2
theorem up_intro {R : List O → Prop} {ρ ρ' : List O} (r : R ρ') (l : Le ρ ρ') : Up R ρ := ⟨ρ', l, r⟩
/-- the length of a list or tuple that stands in a slot -/
theorem ws_len {X : Cx} {ex : Exs} {ρ : List O} {sts : List Stmt} {W : Eds} {d : D} {ds : List D} (i : Nat) (hr : ρ[i]? = some (.va d)) (hi : d.items = some ds) (h : ds.length ≤ sizeLine → WSs X ex sts ρ W) : WSs X ex sts ρ W := ⟨fun E σ G H S pins s I => by
  obtain ⟨v, _, r⟩ := S.get hr
  cases r with
  | tup h1 r1 =>
    cases hi
    obtain ⟨_, _, _, z⟩ := I.tuple (S.gh.t h1)
    rw [r1.length] at z
    exact h z E σ G H S pins s I
  | lst h1 r1 =>
    cases hi
    obtain ⟨_, _, _, z⟩ := I.list (S.gh.l h1)
    rw [r1.length] at z
    exact h z E σ G H S pins s I
  | _ => cases hi⟩
theorem line_lt {n : Nat} (h : n ≤ sizeLine) : -(2 ^ 62) ≤ (n : Int) ∧ (n : Int) < 2 ^ 62 := by
  rw [sizeLine_eq] at h
  omega
mutual
theorem eqv_self : ∀ d : D, d.plain = true → D.eqv d d = true
  | .non, _ => rfl
  | .bl b, _ => by simp [D.eqv, D.py, PyData.eqv]
  | .int i, _ => by simp [D.eqv, D.py, PyData.eqv]
  | .str x, _ => by simp [D.eqv, D.py, PyData.eqv]
  | .ty _, h => by cases h
  | .tup ds, h => eqvs_self ds h
  | .lst ds, h => eqvs_self ds h
theorem eqvs_self : ∀ ds : List D, D.plains ds = true → PyData.eqvAll (D.pys ds) (D.pys ds) = true
  | [], _ => rfl
  | d :: r, h => by
    have h' : (D.plain d && D.plains r) = true := h
    rw [Bool.and_eq_true] at h'
    show (PyData.eqv d.py d.py && PyData.eqvAll (D.pys r) (D.pys r)) = true
    rw [show PyData.eqv d.py d.py = true from eqv_self d h'.1, eqvs_self r h'.2]; rfl
end
theorem plains_get : ∀ {ds : List D} {k : Nat} {d : D}, D.plains ds = true → ds[k]? = some d → d.plain = true
  | [], _, _, _, e => by simp at e
  | a :: r, 0, d, h, e => by
    have h' : (D.plain a && D.plains r) = true := h
    rw [Bool.and_eq_true] at h'
    simp at e; subst e; exact h'.1
  | a :: r, k + 1, d, h, e => by
    have h' : (D.plain a && D.plains r) = true := h
    rw [Bool.and_eq_true] at h'
    exact plains_get (k := k) h'.2 (by simpa using e)
theorem depths_get : ∀ {ds : List D} {k : Nat} {d : D}, ds[k]? = some d → d.depth ≤ D.depths ds
  | [], _, _, e => by simp at e
  | a :: r, 0, d, e => by
    simp at e; subst e
    exact Nat.le_max_left _ _
  | a :: r, k + 1, d, e => Nat.le_trans (depths_get (k := k) (by simpa using e)) (Nat.le_max_right _ _)
theorem tyN_plain {d : D} (h : d.plain = true) : d.tyN ≠ "" := by
  cases d <;> first
    | (cases h; done)
    | simp [D.tyN]
/-- a list or a tuple -/
theorem isA_items : ∀ {d : D}, (d.isA "list" || d.isA "tuple") = true → ∃ ds, d.items = some ds ∧ d.plain = D.plains ds ∧ d.depth = D.depths ds + 1
  | .non, h => absurd (show (isAT "NoneType" "list" || isAT "NoneType" "tuple") = true from h) (by decide)
  | .bl _, h => absurd (show (isAT "bool" "list" || isAT "bool" "tuple") = true from h) (by decide)
  | .int _, h => absurd (show (isAT "int" "list" || isAT "int" "tuple") = true from h) (by decide)
  | .str _, h => absurd (show (isAT "str" "list" || isAT "str" "tuple") = true from h) (by decide)
  | .ty _, h => absurd (show (isAT "" "list" || isAT "" "tuple") = true from h) (by decide)
  | .tup ds, _ => ⟨ds, rfl, rfl, rfl⟩
  | .lst ds, _ => ⟨ds, rfl, rfl, rfl⟩
theorem isA_flat : ∀ {d : D}, (d.isA "list" || d.isA "tuple") = false → d.depth = 0
  | .non, _ => rfl
  | .bl _, _ => rfl
  | .int _, _ => rfl
  | .str _, _ => rfl
  | .ty _, _ => rfl
  | .tup _, h => absurd (show (isAT "tuple" "list" || isAT "tuple" "tuple") = false from h) (by decide)
  | .lst _, h => absurd (show (isAT "list" "list" || isAT "list" "tuple") = false from h) (by decide)
theorem atI_of {ds : List D} {k : Nat} (h : k < ds.length) : atI ds (k : Int) = some (ds[k]'h) := atI_nat (List.getElem?_eq_getElem h)

/-! ### sizes -/
def Sz (n : Nat) (x : Int) : Prop := x.natAbs < 2 ^ n
theorem Sz.mono {m n : Nat} {x : Int} (h : Sz m x) (l : m ≤ n) : Sz n x := Nat.lt_of_lt_of_le h (Nat.pow_le_pow_right (by decide) l)
theorem Sz.mulW {m n : Nat} {x y : Int} (h : Sz m x) (k : Sz n y) (hm : 0 < m := by decide) (hn : 0 < n := by decide) (l : m + n ≤ 1000000 := by decide) : CMulW x y := wide_mul h k hm hn l
theorem Sz.mul {m n : Nat} {x y : Int} (h : Sz m x) (k : Sz n y) : Sz (m + n) (x * y) := wide_lt h k
theorem Sz.add {m n : Nat} {x y : Int} (h : Sz m x) (k : Sz n y) : Sz (max m n + 1) (x + y) := by
  have h1 := h.mono (Nat.le_max_left m n)
  have h2 := k.mono (Nat.le_max_right m n)
  unfold Sz at *
  rw [Nat.pow_succ]
  omega
theorem Sz.sub {m n : Nat} {x y : Int} (h : Sz m x) (k : Sz n y) : Sz (max m n + 1) (x - y) := by
  have h1 := h.mono (Nat.le_max_left m n)
  have h2 := k.mono (Nat.le_max_right m n)
  unfold Sz at *
  rw [Nat.pow_succ]
  omega
theorem Sz.le {n : Nat} {x y : Int} (h : Sz n y) (l : x.natAbs ≤ y.natAbs) : Sz n x := Nat.lt_of_le_of_lt l h
theorem Sz.neg {n : Nat} {x : Int} (h : Sz n x) : Sz n (-x) := by unfold Sz at *; omega
theorem Sz.nn {n : Nat} {x : Int} (h0 : 0 ≤ x) (h : x < 2 ^ n) : Sz n x := by
  unfold Sz
  have : ((2 ^ n : Nat) : Int) = (2 : Int) ^ n := by simp
  omega
theorem Sz.div {n : Nat} {x y : Int} (h0 : y ≠ 0) (h : Sz n y) (hn : 0 < n := by decide) (l : n ≤ 9000 := by decide) : CDivV x y := ⟨h0, Nat.lt_of_lt_of_le (PySem.Flt.log2_lt_of hn h) l⟩
theorem sz_lit {n : Nat} {x : Int} (h : decide (x.natAbs < 2 ^ n) = true) : Sz n x := (of_decide_eq_true h : x.natAbs < 2 ^ n)

/-! ### fractions: n / d in lowest terms, the denominator positive -/
/-- what both are divided by -/
def fg (n d : Int) : Int := if d < 0 then -(Int.gcd n d : Int) else (Int.gcd n d : Int)
def fN (n d : Int) : Int := n.fdiv (fg n d)
def fD (n d : Int) : Int := d.fdiv (fg n d)
theorem gcd_pos {n d : Int} (h : d ≠ 0) : 0 < (Int.gcd n d : Int) := by
  have : 0 < Int.gcd n d := Int.gcd_pos_of_ne_zero_right n h
  omega
theorem gcd_le {n d : Int} (h : d ≠ 0) : Int.gcd n d ≤ d.natAbs := Nat.le_of_dvd (Int.natAbs_pos.mpr h) (Int.gcd_dvd_natAbs_right n d)
theorem fg_ne {n d : Int} (h : d ≠ 0) : fg n d ≠ 0 := by
  have := gcd_pos (n := n) h
  unfold fg
  split <;> omega
theorem fg_sz {k : Nat} {n d : Int} (h : d ≠ 0) (hs : Sz k d) : Sz k (fg n d) := by
  have := gcd_le (n := n) h
  unfold fg Sz at *
  split <;> omega
theorem fg_dvd_n (n d : Int) : fg n d ∣ n := by
  unfold fg
  split
  · exact Int.neg_dvd.mpr (Int.gcd_dvd_left ..)
  · exact Int.gcd_dvd_left ..
theorem fg_dvd_d (n d : Int) : fg n d ∣ d := by
  unfold fg
  split
  · exact Int.neg_dvd.mpr (Int.gcd_dvd_right ..)
  · exact Int.gcd_dvd_right ..
theorem fdiv_mul {a b : Int} (h : b ∣ a) : a.fdiv b * b = a := Int.fdiv_mul_cancel h
theorem fN_mul {n d : Int} : fN n d * fg n d = n := fdiv_mul (fg_dvd_n n d)
theorem fD_mul {n d : Int} : fD n d * fg n d = d := fdiv_mul (fg_dvd_d n d)
theorem fg_sign {n d : Int} (h : d ≠ 0) : 0 < d * fg n d := by
  have := gcd_pos (n := n) h
  unfold fg
  split
  · rw [Int.mul_neg, ← Int.neg_mul]
    exact Int.mul_pos (by omega) this
  · exact Int.mul_pos (by omega) this
theorem fD_pos {n d : Int} (h : d ≠ 0) : 0 < fD n d := by
  have h1 := fg_sign (n := n) h
  have h2 := @fD_mul n d
  have h3 := fg_ne (n := n) h
  by_cases c : 0 < fD n d
  · exact c
  · exfalso
    have : fD n d * (fg n d * fg n d) ≤ 0 := by
      have q : 0 ≤ fg n d * fg n d := by
        rcases Int.lt_or_gt_of_ne h3 with z | z
        · exact Int.le_of_lt (Int.mul_pos_of_neg_of_neg z z)
        · exact Int.le_of_lt (Int.mul_pos z z)
      have := Int.mul_le_mul_of_nonneg_right (Int.not_lt.mp c) q
      rwa [Int.zero_mul] at this
    rw [← Int.mul_assoc, h2] at this
    omega
theorem fN_cross {n d : Int} : fN n d * d = n * fD n d := by
  have h1 := @fN_mul n d
  have h2 := @fD_mul n d
  calc fN n d * d = fN n d * (fD n d * fg n d) := by rw [h2]
    _ = (fN n d * fg n d) * fD n d := by rw [Int.mul_comm (fD n d), Int.mul_assoc]
    _ = n * fD n d := by rw [h1]
theorem natAbs_le_mul {a b : Int} (h : b ≠ 0) : a.natAbs ≤ (a * b).natAbs := by
  rw [Int.natAbs_mul]
  exact Nat.le_mul_of_pos_right _ (Int.natAbs_pos.mpr h)
theorem fN_le {n d : Int} (h : d ≠ 0) : (fN n d).natAbs ≤ n.natAbs := by
  have := natAbs_le_mul (a := fN n d) (fg_ne (n := n) h)
  rwa [fN_mul] at this
theorem fD_le {n d : Int} (h : d ≠ 0) : (fD n d).natAbs ≤ d.natAbs := by
  have := natAbs_le_mul (a := fD n d) (fg_ne (n := n) h)
  rwa [fD_mul] at this
theorem fg_gcd {n d : Int} : (fg n d).natAbs = Int.gcd n d := by
  unfold fg
  split <;> omega
theorem f_gcd {n d : Int} (h : d ≠ 0) : Int.gcd (fN n d) (fD n d) = 1 := by
  have e : Int.gcd (fN n d * fg n d) (fD n d * fg n d) = Int.gcd (fN n d) (fD n d) * (fg n d).natAbs := Int.gcd_mul_right ..
  rw [fN_mul, fD_mul, fg_gcd] at e
  have p : 0 < Int.gcd n d := by have := gcd_pos (n := n) h; omega
  have : Int.gcd (fN n d) (fD n d) * Int.gcd n d = 1 * Int.gcd n d := by rw [← e, Nat.one_mul]
  exact Nat.eq_of_mul_eq_mul_right p this
/-- Euclid's step -/
theorem gcd_turn (x y : Nat) : Nat.gcd y (x % y) = Nat.gcd x y := by
  rw [Nat.gcd_comm x y, Nat.gcd_rec y x, Nat.gcd_comm]
theorem natAbs_if (a : Int) : (if a < 0 then -a else a) = (a.natAbs : Int) := by
  split <;> omega
/-- a fraction as data -/
abbrev fr (n d : Int) : D := .tup [.int n, .int d]
end TG

namespace TG
open PySem PySem.Spec PyProof.Rows L2
theorem mul_ne {a b : Int} (h : a ≠ 0) (k : b ≠ 0) : a * b ≠ 0 := Int.mul_ne_zero h k
theorem Sz.mulE {m n : Nat} {x y : Int} (h : Sz m x) (k : Sz n y) (hm : 0 < m := by decide) (hn : 0 < n := by decide) (l : m + n ≤ 1000000 := by decide) : CMulW x y := h.mulW k hm hn l
/-- a fraction in lowest terms, small -/
structure FrOk (k : Nat) (p q : Int) : Prop where
  pos : 0 < q
  one : Int.gcd p q = 1
  num : Sz k p
  den : Sz k q
theorem FrOk.ne {k : Nat} {p q : Int} (h : FrOk k p q) : q ≠ 0 := Int.ne_of_gt h.pos
theorem FrOk.mono {k j : Nat} {p q : Int} (h : FrOk k p q) (l : k ≤ j) : FrOk j p q := ⟨h.pos, h.one, h.num.mono l, h.den.mono l⟩
theorem fr_ok {k : Nat} {n d : Int} (h : d ≠ 0) (hn : Sz k n) (hd : Sz k d) : FrOk k (fN n d) (fD n d) := ⟨fD_pos h, f_gcd h, hn.le (fN_le h), hd.le (fD_le h)⟩
theorem fr_add {k j : Nat} {a b c d : Int} (h1 : FrOk k a b) (h2 : FrOk j c d) : FrOk (k + j + 1) (fN (a * d + c * b) (b * d)) (fD (a * d + c * b) (b * d)) :=
  fr_ok (mul_ne h1.ne h2.ne) (((h1.num.mul h2.den).add (h2.num.mul h1.den)).mono (by omega)) ((h1.den.mul h2.den).mono (by omega))
theorem fr_sub {k j : Nat} {a b c d : Int} (h1 : FrOk k a b) (h2 : FrOk j c d) : FrOk (k + j + 1) (fN (a * d - c * b) (b * d)) (fD (a * d - c * b) (b * d)) :=
  fr_ok (mul_ne h1.ne h2.ne) (((h1.num.mul h2.den).sub (h2.num.mul h1.den)).mono (by omega)) ((h1.den.mul h2.den).mono (by omega))
theorem fr_mul {k j : Nat} {a b c d : Int} (h1 : FrOk k a b) (h2 : FrOk j c d) : FrOk (k + j) (fN (a * c) (b * d)) (fD (a * c) (b * d)) :=
  fr_ok (mul_ne h1.ne h2.ne) (h1.num.mul h2.num) (h1.den.mul h2.den)
theorem fg_one {n : Int} : fg n 1 = 1 := by
  unfold fg
  rw [if_neg (by decide), Int.gcd_one]; rfl
theorem fN_one {n : Int} : fN n 1 = n := by unfold fN; rw [fg_one, Int.fdiv_one]
theorem fD_one {n : Int} : fD n 1 = 1 := by unfold fD; rw [fg_one]; rfl
theorem fr_unique {a b c d : Int} (hb : 0 < b) (hd : 0 < d) (h1 : Int.gcd a b = 1) (h2 : Int.gcd c d = 1) (e : a * d = c * b) : a = c ∧ b = d := by
  have k1 : b ∣ d := by
    have : b ∣ a * d := ⟨c, by rw [e, Int.mul_comm]⟩
    have q := Int.dvd_gcd_mul_iff_dvd_mul.mpr this
    rw [Int.gcd_comm, h1] at q
    simpa using q
  have k2 : d ∣ b := by
    have : d ∣ c * b := ⟨a, by rw [← e, Int.mul_comm]⟩
    have q := Int.dvd_gcd_mul_iff_dvd_mul.mpr this
    rw [Int.gcd_comm, h2] at q
    simpa using q
  have eb : b = d := Int.le_antisymm (Int.le_of_dvd hd k1) (Int.le_of_dvd hb k2)
  subst eb
  exact ⟨Int.eq_of_mul_eq_mul_right (Int.ne_of_gt hb) e, rfl⟩
/-- the value, by cross products -/
theorem fr_eq {p q n d : Int} (hq : 0 < q) (h1 : Int.gcd p q = 1) (hd : d ≠ 0) (e : p * d = n * q) : fN n d = p ∧ fD n d = q := by
  have k := @fN_cross n d
  refine fr_unique (fD_pos hd) hq (f_gcd hd) h1 ?_
  refine Int.eq_of_mul_eq_mul_right hd ?_
  calc fN n d * q * d = (fN n d * d) * q := by rw [Int.mul_assoc, Int.mul_comm q, ← Int.mul_assoc]
    _ = n * fD n d * q := by rw [k]
    _ = n * q * fD n d := by rw [Int.mul_assoc, Int.mul_comm (fD n d), ← Int.mul_assoc]
    _ = p * d * fD n d := by rw [e]
    _ = p * fD n d * d := by rw [Int.mul_assoc, Int.mul_comm d, ← Int.mul_assoc]
theorem fr_self {p q : Int} (hq : 0 < q) (h1 : Int.gcd p q = 1) : fN p q = p ∧ fD p q = q := fr_eq hq h1 (Int.ne_of_gt hq) rfl
theorem fD_whole {m d : Int} (hd : 0 < d) : fN (m * d) d = m ∧ fD (m * d) d = 1 := fr_eq (by decide) (by rw [Int.gcd_one]) (Int.ne_of_gt hd) (by rw [Int.mul_one])
theorem gcd_rest {p q : Int} : Int.gcd (p % q) q = Int.gcd p q := by
  have e : p = p % q + q * (p / q) := by rw [Int.add_comm]; exact (Int.mul_ediv_add_emod p q).symm
  conv => rhs; rw [e]
  exact (Int.gcd_add_mul_left_left q (p % q) (p / q)).symm
/-- ints in a list -/
theorem map_snoc (ns : List Int) (x : Int) : ns.map D.int ++ [D.int x] = (ns ++ [x]).map D.int := by simp
theorem atI_ints {ns : List Int} {k : Nat} (h : k < ns.length) : atI (ns.map D.int) (k : Int) = some (.int (ns.getD k 0)) := by
  refine atI_nat ?_
  rw [List.getElem?_map, List.getElem?_eq_getElem h]
  simp [List.getD, h]
theorem getD_range {ns : List Int} {k : Nat} {lo hi : Int} (hn : ∀ n ∈ ns, lo ≤ n ∧ n < hi) (h : k < ns.length) : lo ≤ ns.getD k 0 ∧ ns.getD k 0 < hi := by
  have : ns.getD k 0 = ns[k] := by simp [List.getD, h]
  rw [this]
  exact hn _ (List.getElem_mem h)
theorem arith_pre {k j : Nat} {a b c d : Int} (h1 : FrOk k a b) (h2 : FrOk j c d) (hk : k ≤ 2000) (hj : j ≤ 2000) : b ≠ 0 ∧ d ≠ 0 ∧ Sz 2000 a ∧ Sz 2000 b ∧ Sz 2000 c ∧ Sz 2000 d :=
  ⟨h1.ne, h2.ne, h1.num.mono hk, h1.den.mono hk, h2.num.mono hj, h2.den.mono hj⟩
theorem atI_lit {ns : List Int} (k : Nat) {i : Int} (e : i = (k : Int)) (h : k < ns.length) : atI (ns.map D.int) i = some (.int (ns.getD k 0)) := by
  subst e; exact atI_ints h
theorem set_self {ρ : List O} {i : Nat} {o : O} (h : ρ[i]? = some o) : ρ.set i o = ρ := by
  apply List.ext_getElem?
  intro j
  rw [List.getElem?_set]
  by_cases e : i = j
  · subst e
    rw [if_pos rfl, if_pos (List.getElem?_eq_some_iff.mp h).1, h]
  · rw [if_neg e]
/-- the data in slot i, told by P alone -/
theorem ws_abs {X : Cx} {ex : Exs} {ρ : List O} {sts : List Stmt} {W : Eds} {d : D} (i : Nat) (P : D → Prop) (hr : ρ[i]? = some (.va d)) (hp : P d) (h : ∀ d', P d' → WSs X ex sts (ρ.set i (.va d')) W) : WSs X ex sts ρ W := by
  have := h d hp
  rwa [set_self hr] at this
theorem ws_cutU {X : Cx} {ex : Exs} {ρ : List O} {st : Stmt} {rest : List Stmt} {W : Eds} (M : List O → Prop) (h : WS X ex st ρ { W with nx := Up M }) (k : ∀ ρ', M ρ' → WSs X ex rest ρ' W) : WSs X ex (st :: rest) ρ W :=
  ws_cut (Up M) h fun ρ' ⟨_, l, m⟩ => ws_le l (k _ m)
end TG
/-! Exceptions over plain data: raise, defs that raise, try .. except X (as e). -/
namespace TG
open PySem PySem.Spec PyProof.Rows L2

/-- an own exception class of the text, without an __init__ of its own -/
structure ExcT (K : PySem.W.Frag) (mg : Str → Option Value) (n : Str) : Prop where
  ex : ∃ C, mg n = some (.ref C) ∧ PySem.W.excIn K C [.type "ValueError", .type "Exception", .type "BaseException", .type "object"] "ValueError.__new__" = true ∧ PySem.W.keepIn K (.ref C) = true ∧
    PySem.W.subIn K (.ref C) (.type "BaseException") = some true ∧ PySem.W.typeIn K (.ref C) = some (.type "type") ∧ ExcC K C
/-- a raised error of class n is (is not) one of class m -/
structure SubT (K : PySem.W.Frag) (mg : Str → Option Value) (n m : Str) (b : Bool) : Prop where
  ex : ∃ D, mg m = some (.ref D) ∧ ∀ C, mg n = some (.ref C) → PySem.W.exmOne K (.ref C) (.ref D) = some b ∧ PySem.W.kitOne K (.ref C) (.ref D) = some b
/-- .. of a built-in class -/
structure SubB (K : PySem.W.Frag) (mg : Str → Option Value) (n : Str) (t : String) (b : Bool) : Prop where
  ex : ∀ C, mg n = some (.ref C) → PySem.W.kitOne K (.ref C) (.type t) = some b
/-- a def's promise over data, exceptions by their names -/
structure SpcX where
  S : List D → (O → Prop) → (Str → Prop) → Prop
  mono : ∀ ds (Q Q' : O → Prop) (E E' : Str → Prop), (∀ o, Q o → Q' o) → (∀ n, E n → E' n) → S ds Q E → S ds Q' E'
def spOfX (K : PySem.W.Frag) (mg : Str → Option Value) (S : SpcX) : Sp := fun vs H Q E => ∃ ds G, Ex G H ∧ RepL K G vs ds ∧ S.S ds (fun o => ∀ v G' H', Grow G H G' H' → OOk K H G' H' o v → Q v H') fun n => ∀ C G' H', mg n = some (.ref C) → Grow G H G' H' → E (.ref C) none H'
/-- a promise of a def that does not raise, as one of a def that might -/
def Spc.x (S : Spc) : SpcX := ⟨fun ds Q _ => S.S ds Q, fun ds Q Q' _ _ k _ h => S.mono ds Q Q' k h⟩

section
variable {X : Cx} {ex : Exs} {ρ : List O} {e : Expr} {es : List Expr} {st : Stmt} {rest : List Stmt} {W : Eds} {d : D} {ds dds : List D} {pos p p2 npos : Pos} {i k : Nat} {x n : Str}
/-- raise X('..') -/
theorem ws_raise {m : Str} {j : Nat} (T : ExcT X.K X.mg x) (h : ex x ρ) (hc : X.calm = true := by rfl) (hg : Gl X x := by rfl) (hdb : (x == ("__debug__" : Str)) = false := by decide) :
    WS X ex (.Raise (some (.Call (.Name x p) [.Constant (.str m) j p2] [] npos)) none pos) ρ W := ⟨fun E σ G H S => by
  obtain ⟨C, g1, g2, g3, g4, g5, _⟩ := T.ex
  exact of_ps (ps_raise hc takes_acc (pmk_own PySem.F.excBase_ValueError g2 g1 g3 (raises_own g4 g5) hg hdb)) (S.xo x ρ h C g1 σ G H S.toSOk (Ex.refl _))⟩

/-! ### calls that may raise -/
structure CalX (P : Program) (w : World) (K : PySem.W.Frag) (mg : Str → Option Value) (base : Heap) (k : Nat) (x : Str) (S : SpcX) (dds : List D) : Prop where
  ex : ∃ (f : Addr) (fd : FuncData) (ps : List Str) (dvs : List V) (dus : List Value), FnOk P w K mg base (L2.CX P w) k f fd ps (spOfX K mg S) ∧ mg x = some (.ref f) ∧ PySem.W.keepIn K (.ref f) = true ∧ Binds K fd ps dus ∧ Vals dvs dus ∧ ∀ G, RepL K G dvs dds
theorem run_fnSD {CX : CXT} {f : Addr} {fd : FuncData} {ps : List Str} {sp : Sp} {σ : L2.St} {E : XK} {pins : List (Addr × Obj)} {H : Hp} {s : Shared} {Q : VK} {us dus : List Value} {vs dvs : List V} (F : FnOk X.prog X.w X.K X.mg X.base CX k f fd ps sp) (hr : Room k X.A) (hb : Binds X.K fd ps dus) (hd : Vals dvs dus) (hx : PassesAt CX X σ E)
    (I : Inv X pins σ H s) (r : Vals vs us) (h : sp (vs ++ dvs) H Q E) : wpAny (model X.prog X.w) X.A (call (.ref f) us) (EP X pins σ Q) X.xe s := by
  have r2 : Vals (vs ++ dvs) (us ++ dus) := r.append hd
  have hl : (us ++ dus).length = ps.length := by rw [← r2.length]; exact F.len _ _ _ _ h
  refine wpAny_call (codeAny_mono (F.run X.A X.stack s H ⟨us, []⟩ (us ++ dus) (vs ++ dvs) Q E hr I.env0 (hb s us I.kIn hl) r2 h) fun r s' hq => ?_)
  cases r with
  | error e => exact hx pins H s e s' I hq
  | ok fl =>
    cases fl with
    | ret u => exact I.after hq
    | next => exact False.elim hq
    | brk => exact False.elim hq
    | cont => exact False.elim hq
theorem eo_calX {P : O → Prop} {S : SpcX} (C : CalX X.prog X.w X.K X.mg X.base k x S dds) (hr : Room k X.A) (ha : EA X ex (e :: es) ρ ds) (hq : S.S (ds ++ dds) P fun n => ex n ρ) (hg : Gl X x := by rfl) (hdb : (x == ("__debug__" : Str)) = false := by decide) (he : starEach (e :: es) X.env = (false, eval e X.env) :: starEach es X.env := by rfl) (hpl : (backTo pos (starEach es X.env)).any (·.1) = false := by rfl) :
    EO X ex (.Call (.Name x p) (e :: es) [] pos) ρ P := ⟨fun E σ G H Sk => by
  obtain ⟨f, fd, ps, dvs, dus, F, hm, hk, hb, hv, hd⟩ := C.ex
  intro pins s I
  refine wpAny_Call_Name_kw (ld_glob I hg hm ?_ hdb)
  refine PySem.W.callWith_K (h₀ := X.base) I.ok.mod.kin hk (thn (ha E σ G H Sk pos pins s I) fun us s1 ⟨vs, H1, I1, r, G1, g1, r1⟩ => ⟨I1.kIn, ?_⟩) he hpl
  refine run_fnSD F hr hb hv (passAt takes_acc σ) I1 r ?_
  exact ⟨ds ++ dds, G1, g1.gh, r1.append (hd G1), S.mono _ _ _ _ _ (fun o hP v G2 H2 g2 q => ⟨o, G2, g1.trans g2, OOk.h0 (E := (G, H)) g1.h q, hP⟩) (fun n hn C G2 H2 hC g2 => Sk.xo n ρ hn C hC σ G2 H2 (Sk.toSOk.grow (g1.trans g2)) (g1.trans g2).g) hq⟩⟩
/-- a def that does not raise may be called so, too -/
theorem eo_cal0X {P : O → Prop} {S : SpcX} (C : CalX X.prog X.w X.K X.mg X.base k x S dds) (hr : Room k X.A) (hq : S.S dds P fun n => ex n ρ) (hg : Gl X x := by rfl) (hdb : (x == ("__debug__" : Str)) = false := by decide) :
    EO X ex (.Call (.Name x p) [] [] pos) ρ P := ⟨fun E σ G H Sk => by
  obtain ⟨f, fd, ps, dvs, dus, F, hm, hk, hb, hv, hd⟩ := C.ex
  intro pins s I
  refine wpAny_Call_Name_kw (ld_glob I hg hm ?_ hdb)
  refine PySem.W.callWith_K0 I.kIn hk (run_fnSD (us := []) (vs := []) F hr hb hv (passAt takes_acc σ) I .nil ?_)
  exact ⟨dds, G, Sk.gh, hd G, S.mono _ _ _ _ _ (fun o hP v G2 H2 g2 q => ⟨o, G2, g2, q, hP⟩) (fun n hn C G2 H2 hC g2 => Sk.xo n ρ hn C hC σ G2 H2 (Sk.toSOk.grow g2) g2.g) hq⟩⟩

/-! ### try -/
theorem lift_mono {K : PySem.W.Frag} {E : Hp × Hp} {G G1 H : Hp} {σ : L2.St} {sts : List Stmt} {Y : Cx} (e : Ex G G1) (h : tSemSs Y sts (lift K E G1 W) σ H) : tSemSs Y sts (lift K E G W) σ H :=
  tSemSs_mono h (fun _ _ => up_ex e) (fun _ _ h => h) (fun _ _ => up_ex e) (fun _ _ => up_ex e)
/-- how a suite's context comes -/
abbrev Suite (X : Cx) (a : Addr) (oe : Obj) (pn : List (Addr × Obj)) : Cx := X.suite a ((a, oe) :: pn)
/-- try: body, except c: suite. exb: the errors that the body may raise; each of them is caught (what the suite wants), or passed on -/
theorem ws_try {c : Str} {exb : Exs} {b₀ : Stmt} {suite body : List Stmt} {np pos' : Pos} {Cc : Addr} (hgc : X.mg c = some (.ref Cc))
    (hbody : ∀ (pn : List (Addr × Obj)) (xe : Value → Shared → Prop), PassesOwn (model X.prog X.w) X.A X.env xe → WSs (X.tr pn xe) exb body ρ W)
    (hx : ∀ n ρ', exb n ρ' → ∃ b, (∀ C, X.mg n = some (.ref C) → PySem.W.exmOne X.K (.ref C) (.ref Cc) = some b) ∧ (b = true → ∀ C, X.mg n = some (.ref C) → ∀ (a : Addr) (oe : Obj) (pn : List (Addr × Obj)), Zc (.ref C) none oe → (∃ vs, oe.data = .fields vs) → WSs (Suite X a oe pn) noX (b₀ :: suite) ρ' W) ∧ (b = false → ex n ρ'))
    (hs : X.stack = X.env :: X.outer := by rfl) (hf : X.env.frame = some X.env.locals := by rfl) (hg : Gl X c := by rfl) (hdb : (c == ("__debug__" : Str)) = false := by decide) :
    WS X ex (.Try body [.ExceptHandler (some (.Name c np)) none (b₀ :: suite) pos'] [] [] pos) ρ W := ⟨fun E σ G H S => by
  refine of_ps (ps_try_only (Wout := WA X) (tb := fun WX D σ H => ∀ (pn : List (Addr × Obj)) (xe : Value → Shared → Prop), Takes (X.tr pn xe) WX → PassesOwn (model X.prog X.w) X.A X.env xe → tSemSs (X.tr pn xe) body D σ H)
    (ts := fun a cls d D σ H => ∀ (oe : Obj) (pn : List (Addr × Obj)), Zc cls d oe → (∃ vs, oe.data = .fields vs) → tSemSs (Suite X a oe pn) (b₀ :: suite) D σ H) hs hf ⟨hg, hdb, .inl hgc⟩ takes_acc
    (fun WX pn xe tk po => ⟨fun pins s σ H D I h => h pn xe tk po pins s I⟩) (fun a oe cls d pn hz hv => ⟨fun pins s σ H D I h => h oe pn hz hv pins s I⟩)) fun pn xe tk po => ?_
  refine hbody pn xe po E σ G H ⟨S.toSOk, fun n ρ' hn C hC σ' G' H' S' e => ⟨_, tk, ?_⟩⟩
  obtain ⟨b, h1, h2, h3⟩ := hx n ρ' hn
  refine ⟨b, h1 C hC, fun hb a ha oe pn' hz hv => ?_, fun hb => S.xo n ρ' (h3 hb) C hC σ' G' H' S' e⟩
  exact lift_mono e (h2 hb C hC a oe pn' hz hv E σ' G' H' (SOk.nox (X := Suite X a oe pn') S'))⟩
/-- the name's slot is empty behind the suite -/
def Eds.gone (W : Eds) (i : Nat) : Eds := { nx := fun ρ => W.nx (ρ.set i .un), rt := W.rt, bk := fun ρ => W.bk (ρ.set i .un), ct := fun ρ => W.ct (ρ.set i .un) }
theorem SOk.gone {K : PySem.W.Frag} {E : Hp × Hp} {σ : L2.St} {G H : Hp} (S : SOk K E ρ σ G H) (i : Nat) : SOk K E (ρ.set i .un) (σ.set i none) G H := by
  refine ⟨S.g0, S.gh, S.h0, S.fr, by rw [List.length_set, List.length_set]; exact S.len, fun j u e => ?_, fun j k b hj hk => ?_⟩
  · rcases set_at e with ⟨hj, hu, l⟩ | ⟨ne, e'⟩
    · exact .inl hu
    · rcases S.at' j u e' with h | ⟨v, s, q⟩
      · exact .inl h
      · exact .inr ⟨v, by rw [List.getElem?_set_ne ne]; exact s, q⟩
  · have back : ∀ j, Own (ρ.set i .un) (σ.set i none) j b → Own ρ σ j b := fun j ⟨⟨o, e, p⟩, s⟩ => by
      rcases set_at e with ⟨hj, ho, l⟩ | ⟨ne, e'⟩
      · subst hj ho; exact absurd p Bool.false_ne_true
      · rw [List.getElem?_set_ne ne] at s
        exact ⟨⟨o, e', p⟩, s⟩
    exact S.apart j k b (back j hj) (back k hk)
theorem lift_gone {K : PySem.W.Frag} {E : Hp × Hp} {G : Hp} {i : Nat} {σ : L2.St} {H : Hp} {sts : List Stmt} {Y : Cx} (h : tSemSs Y sts (lift K E G (W.gone i)) σ H) :
    tSemSs Y sts { nx := fun σ' H' => (lift K E G W).nx (σ'.set i none) H', rt := (lift K E G W).rt, bk := fun σ' H' => (lift K E G W).bk (σ'.set i none) H', ct := fun σ' H' => (lift K E G W).ct (σ'.set i none) H' } σ H :=
  tSemSs_mono h (fun _ _ ⟨ρ', G', S, e, q⟩ => ⟨_, G', S.gone i, e, q⟩) (fun _ _ h => h) (fun _ _ ⟨ρ', G', S, e, q⟩ => ⟨_, G', S.gone i, e, q⟩) (fun _ _ ⟨ρ', G', S, e, q⟩ => ⟨_, G', S.gone i, e, q⟩)
/-- try: body, except c as y: suite (y in slot i) -/
theorem ws_tryAs {c y : Str} {exb : Exs} {b₀ : Stmt} {suite body : List Stmt} {np pos' : Pos} {Cc : Addr} (i : Nat) (hgc : X.mg c = some (.ref Cc)) (hNd : X.N.Nodup)
    (hbody : ∀ (pn : List (Addr × Obj)) (xe : Value → Shared → Prop), PassesOwn (model X.prog X.w) X.A X.env xe → WSs (X.tr pn xe) exb body ρ W)
    (hx : ∀ n ρ', exb n ρ' → ∃ b, (∀ C, X.mg n = some (.ref C) → PySem.W.exmOne X.K (.ref C) (.ref Cc) = some b) ∧ (b = true → ∀ C, X.mg n = some (.ref C) → ∀ (a : Addr) (oe : Obj) (pn : List (Addr × Obj)), Zc (.ref C) none oe → (∃ vs, oe.data = .fields vs) → WSs (Suite X a oe pn) noX (b₀ :: suite) (ρ'.set i (.rf a)) (W.gone i)) ∧ (b = false → ex n ρ'))
    (hs : X.stack = X.env :: X.outer := by rfl) (hf : X.env.frame = some X.env.locals := by rfl) (hg : Gl X c := by rfl) (hdb : (c == ("__debug__" : Str)) = false := by decide) (hi : X.N[i]? = some y := by rfl) (hln : X.env.kindOf y = some .local := by rfl) :
    WS X ex (.Try body [.ExceptHandler (some (.Name c np)) (some y) (b₀ :: suite) pos'] [] [] pos) ρ W := ⟨fun E σ G H S => by
  refine of_ps (ps_try_as (Wout := WA X) (tb := fun WX D σ H => ∀ (pn : List (Addr × Obj)) (xe : Value → Shared → Prop), Takes (X.tr pn xe) WX → PassesOwn (model X.prog X.w) X.A X.env xe → tSemSs (X.tr pn xe) body D σ H)
    (ts := fun a cls d D σ H => ∀ (oe : Obj) (pn : List (Addr × Obj)), Zc cls d oe → (∃ vs, oe.data = .fields vs) → tSemSs (Suite X a oe pn) (b₀ :: suite) D σ H) hs hf hNd hi hln ⟨hg, hdb, .inl hgc⟩ takes_acc
    (fun WX pn xe tk po => ⟨fun pins s σ H D I h => h pn xe tk po pins s I⟩) (fun a oe cls d pn hz hv => ⟨fun pins s σ H D I h => h oe pn hz hv pins s I⟩)) fun pn xe tk po => ?_
  refine hbody pn xe po E σ G H ⟨S.toSOk, fun n ρ' hn C hC σ' G' H' S' e => ⟨_, tk, ?_⟩⟩
  obtain ⟨b, h1, h2, h3⟩ := hx n ρ' hn
  refine ⟨b, h1 C hC, fun hb a ha oe pn' hz hv => ?_, fun hb => S.xo n ρ' (h3 hb) C hC σ' G' H' S' e⟩
  refine lift_gone (lift_mono e (h2 hb C hC a oe pn' hz hv E _ G' H' (SOk.nox (X := Suite X a oe pn') ?_)))
  exact S'.set i (o := .rf a) rfl fun h => absurd h Bool.false_ne_true⟩
/-- isinstance(e, c) in an except suite, e the exception that was caught, c an own class -/
theorem ee_isE {Y : Cx} {a : Addr} {oe : Obj} {pn : List (Addr × Obj)} {c : Str} {b : Bool} {z : Str} {zp cp : Pos} {C Cc : Addr} (i : Nat) (hEC : ExcC Y.K C) (hz : Zc (.ref C) none oe) (hv : ∃ vs, oe.data = .fields vs) (hr : ρ[i]? = some (.rf a)) (hC : Y.mg c = some (.ref Cc)) (hk : PySem.W.kitOne Y.K (.ref C) (.ref Cc) = some b)
    (hm : Y.mg "isinstance" = none) (hg : Gl (Suite Y a oe pn) "isinstance" := by rfl) (hgc : Gl (Suite Y a oe pn) c := by rfl) (hN : Y.N[i]? = some z := by rfl) (hvz : Vis Y.env.scope z := by first | exact Or.inl rfl | exact Or.inr (Or.inl rfl) | exact Or.inr (Or.inr rfl)) (hd : (z == ("__debug__" : Str)) = false := by decide) (hcd : (z == ("__classdict__" : Str)) = false := by decide) (hdc : (c == ("__debug__" : Str)) = false := by decide)
    (he : starEach [.Name z zp, .Name c cp] (Suite Y a oe pn).env = (false, eval (.Name z zp) (Suite Y a oe pn).env) :: starEach [.Name c cp] (Suite Y a oe pn).env := by rfl) (he2 : starEach [.Name c cp] (Suite Y a oe pn).env = (false, eval (.Name c cp) (Suite Y a oe pn).env) :: starEach [] (Suite Y a oe pn).env := by rfl)
    (hpl : (backTo pos (starEach [.Name c cp] (Suite Y a oe pn).env)).any (·.1) = false := by rfl) : EE (Suite Y a oe pn) ex (.Call (.Name "isinstance" p) [.Name z zp, .Name c cp] [] pos) ρ (.bl b) := ⟨fun E σ G H S => by
  rcases S.at' i _ hr with h | ⟨v, s1, q⟩
  · cases h
  have q' : v = .ref a := q
  subst q'
  refine of_pe (pe_callB (call_isE hEC hz hv) hg hm (by decide +kernel) (pa_cons (pe_var (X := Suite Y a oe pn) hN hvz hd hcd) (pa_cons (pe_glob (X := Suite Y a oe pn) (v := .ref Cc) (u := .ref Cc) hgc hC rfl hdc) pa_nil he2) he) (by decide) (by decide) he hpl) ?_
  exact ⟨.ref a, s1, .ref Cc, .ref Cc, b, rfl, fun u h => h, hk, G, .refl S.gh, .bl b⟩⟩
/-- isinstance(e, ValueError) -/
theorem ee_isEb {Y : Cx} {a : Addr} {oe : Obj} {pn : List (Addr × Obj)} {t : String} {b : Bool} {z : Str} {zp cp : Pos} {C : Addr} (i : Nat) (hEC : ExcC Y.K C) (hz : Zc (.ref C) none oe) (hv : ∃ vs, oe.data = .fields vs) (hr : ρ[i]? = some (.rf a)) (hC : Y.mg x = none) (hbt : bootBuiltins x = some (.type t)) (hk : PySem.W.kitOne Y.K (.ref C) (.type t) = some b)
    (hm : Y.mg "isinstance" = none) (hg : Gl (Suite Y a oe pn) "isinstance" := by rfl) (hgc : Gl (Suite Y a oe pn) x := by rfl) (hN : Y.N[i]? = some z := by rfl) (hvz : Vis Y.env.scope z := by first | exact Or.inl rfl | exact Or.inr (Or.inl rfl) | exact Or.inr (Or.inr rfl)) (hd : (z == ("__debug__" : Str)) = false := by decide) (hcd : (z == ("__classdict__" : Str)) = false := by decide) (hdc : (x == ("__debug__" : Str)) = false := by decide) (hnn : x ≠ "__name__" := by decide)
    (he : starEach [.Name z zp, .Name x cp] (Suite Y a oe pn).env = (false, eval (.Name z zp) (Suite Y a oe pn).env) :: starEach [.Name x cp] (Suite Y a oe pn).env := by rfl) (he2 : starEach [.Name x cp] (Suite Y a oe pn).env = (false, eval (.Name x cp) (Suite Y a oe pn).env) :: starEach [] (Suite Y a oe pn).env := by rfl)
    (hpl : (backTo pos (starEach [.Name x cp] (Suite Y a oe pn).env)).any (·.1) = false := by rfl) : EE (Suite Y a oe pn) ex (.Call (.Name "isinstance" p) [.Name z zp, .Name x cp] [] pos) ρ (.bl b) := ⟨fun E σ G H S => by
  rcases S.at' i _ hr with h | ⟨v, s1, q⟩
  · cases h
  have q' : v = .ref a := q
  subst q'
  refine of_pe (pe_callB (call_isE hEC hz hv) hg hm (by decide +kernel) (pa_cons (pe_var (X := Suite Y a oe pn) hN hvz hd hcd) (pa_cons (pe_bltn (X := Suite Y a oe pn) (v := .ty t) (u := .type t) hgc hC hbt rfl hnn hdc) pa_nil he2) he) (by decide) (by decide) he hpl) ?_
  exact ⟨.ref a, s1, .ty t, .type t, b, rfl, fun u h => h, hk, G, .refl S.gh, .bl b⟩⟩
theorem ee_isX {Y : Cx} {a : Addr} {oe : Obj} {pn : List (Addr × Obj)} {c n z : Str} {b : Bool} {zp cp : Pos} {C : Addr} (i : Nat) (T : ExcT Y.K Y.mg n) (Sb : SubT Y.K Y.mg n c b) (hC : Y.mg n = some (.ref C)) (hz : Zc (.ref C) none oe) (hv : ∃ vs, oe.data = .fields vs) (hr : ρ[i]? = some (.rf a))
    (hm : Y.mg "isinstance" = none) (hg : Gl (Suite Y a oe pn) "isinstance" := by rfl) (hgc : Gl (Suite Y a oe pn) c := by rfl) (hN : Y.N[i]? = some z := by rfl) (hvz : Vis Y.env.scope z := by first | exact Or.inl rfl | exact Or.inr (Or.inl rfl) | exact Or.inr (Or.inr rfl)) (hd : (z == ("__debug__" : Str)) = false := by decide) (hcd : (z == ("__classdict__" : Str)) = false := by decide) (hdc : (c == ("__debug__" : Str)) = false := by decide)
    (he : starEach [.Name z zp, .Name c cp] (Suite Y a oe pn).env = (false, eval (.Name z zp) (Suite Y a oe pn).env) :: starEach [.Name c cp] (Suite Y a oe pn).env := by rfl) (he2 : starEach [.Name c cp] (Suite Y a oe pn).env = (false, eval (.Name c cp) (Suite Y a oe pn).env) :: starEach [] (Suite Y a oe pn).env := by rfl)
    (hpl : (backTo pos (starEach [.Name c cp] (Suite Y a oe pn).env)).any (·.1) = false := by rfl) : EE (Suite Y a oe pn) ex (.Call (.Name "isinstance" p) [.Name z zp, .Name c cp] [] pos) ρ (.bl b) := by
  obtain ⟨C', hC', _, _, _, _, EC⟩ := T.ex
  rw [hC] at hC'; cases hC'
  obtain ⟨D, hD, hk⟩ := Sb.ex
  exact ee_isE i EC hz hv hr hD (hk C hC).2 hm hg hgc hN hvz hd hcd hdc he he2 hpl
theorem ee_isXb {Y : Cx} {a : Addr} {oe : Obj} {pn : List (Addr × Obj)} {t : String} {n z : Str} {b : Bool} {zp cp : Pos} {C : Addr} (i : Nat) (T : ExcT Y.K Y.mg n) (Sb : SubB Y.K Y.mg n t b) (hC : Y.mg n = some (.ref C)) (hz : Zc (.ref C) none oe) (hv : ∃ vs, oe.data = .fields vs) (hr : ρ[i]? = some (.rf a)) (hx : Y.mg x = none) (hbt : bootBuiltins x = some (.type t))
    (hm : Y.mg "isinstance" = none) (hg : Gl (Suite Y a oe pn) "isinstance" := by rfl) (hgc : Gl (Suite Y a oe pn) x := by rfl) (hN : Y.N[i]? = some z := by rfl) (hvz : Vis Y.env.scope z := by first | exact Or.inl rfl | exact Or.inr (Or.inl rfl) | exact Or.inr (Or.inr rfl)) (hd : (z == ("__debug__" : Str)) = false := by decide) (hcd : (z == ("__classdict__" : Str)) = false := by decide) (hdc : (x == ("__debug__" : Str)) = false := by decide) (hnn : x ≠ "__name__" := by decide)
    (he : starEach [.Name z zp, .Name x cp] (Suite Y a oe pn).env = (false, eval (.Name z zp) (Suite Y a oe pn).env) :: starEach [.Name x cp] (Suite Y a oe pn).env := by rfl) (he2 : starEach [.Name x cp] (Suite Y a oe pn).env = (false, eval (.Name x cp) (Suite Y a oe pn).env) :: starEach [] (Suite Y a oe pn).env := by rfl)
    (hpl : (backTo pos (starEach [.Name x cp] (Suite Y a oe pn).env)).any (·.1) = false := by rfl) : EE (Suite Y a oe pn) ex (.Call (.Name "isinstance" p) [.Name z zp, .Name x cp] [] pos) ρ (.bl b) := by
  obtain ⟨C', hC', _, _, _, _, EC⟩ := T.ex
  rw [hC] at hC'; cases hC'
  exact ee_isEb i EC hz hv hr hx hbt (Sb.ex C hC) hm hg hgc hN hvz hd hcd hdc hnn he he2 hpl
end

/-! ### defs that may raise -/
section
variable {P : Program} {w : World} {K : PySem.W.Frag} {mg : Str → Option Value} {base : Heap} {x : Str} {st : Stmt} {ps : List Str} {dvs : List V} {k : Nat}
theorem DefT.fnX {S : SpcX} (T : DefT K mg x st ps dvs) {N : List Str} (Sc : FnScope N ps (defScope st)) (len : ∀ ds Q E, S.S ds Q E → ds.length = ps.length)
    (hbody : ∀ (f : Addr) (cdv : Value) (A : Around) (outer : List Env) (s : Shared) (H : Hp) (E : XK), Room k (A.deeper (envOfC x (defScope st) s.heap.objs.size f cdv)) → ∀ ds (Q : O → Prop) (EN : Str → Prop), S.S ds Q EN →
      WSs (cxOf (L2.CX P w) P w K mg base N x (defScope st) f cdv A outer s H E) (fun n _ => EN n) (defBody st) (slots N.length ds) { nx := fun _ => Q (.va .non), rt := Q }) :
    ∃ (f : Addr) (fd : FuncData), FnOk P w K mg base (L2.CX P w) (k + 1) f fd ps (spOfX K mg S) ∧ mg x = some (.ref f) ∧ PySem.W.keepIn K (.ref f) = true ∧ ∀ j ≤ dvs.length, ∃ ds, Vals (dvs.drop j) ds ∧ Binds K fd ps ds := by
  obtain ⟨f, fd, F, hm, hb⟩ := T.ex
  refine ⟨f, fd, F.ok Sc (fun vs H Q E ⟨ds, G, e, r, h⟩ => ?_) (fun cdv A outer s H vs Q E hr h => ?_), hm, F.kp, hb⟩
  · rw [r.length]; exact len ds _ _ h
  · obtain ⟨ds, G, e, r, h⟩ := h
    refine ⟨tSemSs (cxOf (L2.CX P w) P w K mg base N x (defScope st) f cdv A outer s H E) _, sem_pss, ?_⟩
    refine tSemSs_mono (hbody f cdv A outer s H E hr ds _ _ h (G, H) _ G H ⟨sok_start e r, fun n ρ' hn C hC σ' G' H' S' e' => ⟨fun cls d _ H => E cls d H, takes_of rfl rfl rfl rfl, hn C G' H' hC ⟨S'.g0, S'.h0, S'.gh, S'.fr⟩⟩⟩) (fun σ' H' ⟨ρ', G', S', x, q⟩ => ?_) (fun v H' ⟨o, G', R, q⟩ => ?_) (fun _ _ ⟨_, _, _, _, q⟩ => q.elim) (fun _ _ ⟨_, _, _, _, q⟩ => q.elim)
    · exact q .non G' H' ⟨S'.g0, S'.h0, S'.gh, S'.fr⟩ .non
    · exact q v G' H' ⟨R.g0, R.h0, R.gh, R.fr⟩ R.ok
theorem calX_of {S : SpcX} (h : ∃ (f : Addr) (fd : FuncData), FnOk P w K mg base (L2.CX P w) k f fd ps (spOfX K mg S) ∧ mg x = some (.ref f) ∧ PySem.W.keepIn K (.ref f) = true ∧ ∀ j ≤ dvs.length, ∃ ds, Vals (dvs.drop j) ds ∧ Binds K fd ps ds)
    (j : Nat) (hj : j ≤ dvs.length) {dds : List D} (hd : ∀ G, RepL K G (dvs.drop j) dds) : CalX P w K mg base k x S dds := by
  obtain ⟨f, fd, F, hm, hk, hb⟩ := h
  obtain ⟨ds, r, b⟩ := hb j hj
  exact ⟨f, fd, ps, dvs.drop j, ds, F, hm, hk, b, r, hd⟩
theorem CalX.mono {S : SpcX} {j : Nat} {dds : List D} (C : CalX P w K mg base k x S dds) (h : k ≤ j) : CalX P w K mg base j x S dds := by
  obtain ⟨f, fd, ps, dvs, dus, F, r⟩ := C.ex
  exact ⟨f, fd, ps, dvs, dus, F.mono h, r⟩
end
/-- a try's body in a def where no exception leaves, a def where some do -/
theorem own_tr {Y : Cx} {pn : List (Addr × Obj)} {xe : Value → Shared → Prop} (po : PassesOwn (model Y.prog Y.w) Y.A Y.env xe) : PassesOwn (model (Y.tr pn xe).prog (Y.tr pn xe).w) (Y.tr pn xe).A (Y.tr pn xe).env (Y.tr pn xe).xe := po
theorem bt_ValueError : bootBuiltins "ValueError" = some (.type "ValueError") := by decide +kernel
/-! ### a test that certainly raises -/
structure EF (X : Cx) (ex : Exs) (e : Expr) (ρ : List O) : Prop where
  run : ∀ (E : Hp × Hp) (σ : L2.St) (G H : Hp), SOx X ex E ρ σ G H → tSemT X e σ H fun _ _ => False
theorem ef_isN {X : Cx} {ex : Exs} {ρ : List O} {a : Expr} {pos pos' : Pos} {k} (h : EO X ex a ρ (fun _ => False)) : EF X ex (.Compare a [.Is] [.Constant .none k pos'] pos) ρ := ⟨fun E σ G H S =>
  of_pt (pt_cmp (pc_isN sem_pe) rfl) (tSem_mono (h E σ G H S) fun v H1 ⟨_, _, _, _, f⟩ => f.elim)⟩
theorem ef_val {X : Cx} {ex : Exs} {ρ : List O} {e : Expr} (h : EO X ex e ρ (fun _ => False)) (he : ∀ whole, isTrue e X.env whole = (do let v ← whole; standAt e.pos; holding [v] (truthy v)) := by intro _; rfl) : EF X ex e ρ := ⟨fun E σ G H S =>
  of_pt (pt_val sem_pe he) (tSem_mono (h E σ G H S) fun v H1 ⟨_, _, _, _, f⟩ => f.elim)⟩
theorem ws_ifF {X : Cx} {ex : Exs} {ρ : List O} {W : Eds} {c : Expr} {A B : List Stmt} {pos : Pos} (hc : EF X ex c ρ) : WS X ex (.If c A B pos) ρ W := ⟨fun E σ G H S =>
  of_ps (ps_if sem_pt sem_pss sem_pss) (tSemT_mono (hc.run E σ G H S) fun b H1 f => f.elim)⟩
/-! ### constants of the module -/
structure ConT (K : PySem.W.Frag) (mg : Str → Option Value) (x : Str) (d : D) : Prop where
  ex : ∃ v u, mg x = some u ∧ RelV v u ∧ ∀ G, Rep K G v d
theorem ee_con {X : Cx} {ex : Exs} {ρ : List O} {d : D} {pos : Pos} {x : Str} (T : ConT X.K X.mg x d) (hg : Gl X x := by rfl) (hd : (x == ("__debug__" : Str)) = false := by decide) : EE X ex (.Name x pos) ρ d := by
  obtain ⟨v, u, hm, r, h⟩ := T.ex
  exact ee_glob hg hm r h hd
theorem small_ok {n : Nat} (h : Nat.ble n 64 = true) : n ≤ sizeLine := Nat.le_trans (Nat.le_of_ble_eq_true h) (by decide)
theorem rep_ktup {K : PySem.W.Frag} {a : Addr} {od : Option Addr} {its : List Value} {n : Nat} {sl : Array (Option Value)} {xs : List V} {ds : List D} (l : K.lookup a = some ⟨.type "tuple", od, .seq its.toArray n, sl⟩) (hs : its.length ≤ sizeLine) (v : Vals xs its) (r : ∀ G, RepL K G xs ds) (G : Hp) : Rep K G (.ref a) (.tup ds) :=
  .tup (.inr ⟨_, its.toArray, n, l, rfl, rfl, by rw [List.size_toArray]; exact hs, v⟩) (r G)
theorem rep_klst {K : PySem.W.Frag} {a : Addr} {its : List Value} {n : Nat} {sl : Array (Option Value)} {xs : List V} {ds : List D} (l : K.lookup a = some ⟨.type "list", none, .seq its.toArray n, sl⟩) (hs : its.length ≤ sizeLine) (v : Vals xs its) (r : ∀ G, RepL K G xs ds) (G : Hp) : Rep K G (.ref a) (.lst ds) :=
  .lst (.inr ⟨_, its.toArray, n, l, rfl, rfl, rfl, by rw [List.size_toArray]; exact hs, v⟩) (r G)
theorem sub_mk {K : PySem.W.Frag} {mg : Str → Option Value} {n m : Str} {b : Bool} {C D : Addr} (h1 : mg n = some (.ref C)) (h2 : mg m = some (.ref D)) (hb : PySem.W.subIn K (.ref D) (.type "BaseException") = some true) (hd : PySem.W.hasDictIn K D = true) (ht : PySem.W.typeIn K (.ref D) = some (.type "type"))
    (hs : PySem.W.subIn K (.ref C) (.ref D) = some b) (hk : PySem.W.kitOne K (.ref C) (.ref D) = some b) : SubT K mg n m b :=
  ⟨D, h2, fun C' h => by rw [h1] at h; cases h; exact ⟨PySem.W.exm_ref hb hd ht hs, hk⟩⟩
theorem subB_mk {K : PySem.W.Frag} {mg : Str → Option Value} {n : Str} {t : String} {b : Bool} {C : Addr} (h1 : mg n = some (.ref C)) (hk : PySem.W.kitOne K (.ref C) (.type t) = some b) : SubB K mg n t b :=
  ⟨fun C' h => by rw [h1] at h; cases h; exact hk⟩
end TG
/-! Tuples and lists as a whole: +, slices, in, list(..), tuple(..); list comprehensions. -/
namespace TG
open PySem PySem.Spec PyProof.Rows L2

section
variable {X : Cx} {ex : Exs} {ρ : List O} {e a b : Expr} {es : List Expr} {d d1 d2 : D} {ds : List D} {pos p p2 : Pos} {i : Int} {x : Str}
theorem RepL.nil_of {K : PySem.W.Frag} {G : Hp} {ds : List D} (r : RepL K G [] ds) : ds = [] := by cases r; rfl
theorem RepL.nil_of' {K : PySem.W.Frag} {G : Hp} {vs : List V} (r : RepL K G vs []) : vs = [] := by cases r; rfl
/-! ### tuple + tuple -/
theorem bin_catT {es : List D} (hz : ds.length + es.length ≤ sizeLine) : BinD X (rCatA X.K) (.tup ds) (.tup es) (.tup (ds ++ es)) := fun G H v w Q e r1 r2 q => by
  cases r1 with
  | @tup _ xs1 _ h1 r1 =>
    cases r2 with
    | @tup _ xs2 _ h2 r2 =>
      refine ⟨_, _, _, _, rfl, rfl, e.t h1, e.t h2, by rw [r1.length, r2.length]; exact hz, fun z => ?_, fun _ z => ?_, fun _ _ p hp => ?_⟩
      · subst z
        obtain rfl := r1.nil_of
        exact q _ G H (.refl e) (.tup h2 r2)
      · subst z
        obtain rfl := r2.nil_of
        rw [List.append_nil] at q
        exact q _ G H (.refl e) (.tup h1 r1)
      · have g := Grow.new (u := .tup (xs1 ++ xs2)) e hp
        exact q _ _ _ g (.tup (.inl (.inl upd_same)) ((r1.append r2).mono g.g))
theorem ee_catT {es : List D} (ha : EE X ex a ρ (.tup ds)) (hb : EE X ex b ρ (.tup es)) (hz : ds.length + es.length ≤ sizeLine) : EE X ex (.BinOp a .Add b pos) ρ (.tup (ds ++ es)) := ee_bin op_catA (bin_catT hz) ha hb

/-! ### slices -/
def tSemP (X : Cx) (e : Option Expr) : TO := fun σ H Q => ∀ (pins : List (Addr × Obj)) (s : Shared), Inv X pins σ H s → wpAny (model X.prog X.w) X.A (evalPart e X.env) (fun u s' => ∃ o H', Inv X pins σ H' s' ∧ IsPart u o ∧ Q o H') X.xe s
theorem sem_po {e : Option Expr} : PO X e (tSemP X e) := ⟨fun pins s σ H Q I h => h pins s I⟩
structure EPt (X : Cx) (ex : Exs) (e : Option Expr) (ρ : List O) (o : Option Int) : Prop where
  run : ∀ (E : Hp × Hp) (σ : L2.St) (G H : Hp), SOx X ex E ρ σ G H → tSemP X e σ H fun o' H' => o' = o ∧ ∃ G', Grow G H G' H'
instance {X : Cx} {ex : Exs} {e : Option Expr} {ρ : List O} {o : Option Int} : CoeFun (EPt X ex e ρ o) (fun _ => ∀ (E : Hp × Hp) (σ : L2.St) (G H : Hp), SOx X ex E ρ σ G H → tSemP X e σ H fun o' H' => o' = o ∧ ∃ G', Grow G H G' H') := ⟨EPt.run⟩

theorem ep_none : EPt X ex none ρ none := ⟨fun E σ G H S pins s I => po_none.run pins s σ H _ I ⟨rfl, G, .refl S.gh⟩⟩
theorem ep_some (h : EE X ex e ρ (.int i)) : EPt X ex (some e) ρ (some i) := ⟨fun E σ G H S pins s I => (po_some sem_pe).run pins s σ H _ I (tSem_mono (h E σ G H S) fun v H1 ⟨G1, g1, r1⟩ => by cases r1; exact ⟨i, rfl, rfl, G1, g1⟩)⟩
def cutD (ds : List D) (lo hi : Option Int) : List D := (ds.drop (HT.sIx ds.length 0 lo)).take (HT.sIx ds.length ds.length hi - HT.sIx ds.length 0 lo)
theorem RepL.cut {K : PySem.W.Frag} {G : Hp} {ds : List D} {vs : List V} (r : RepL K G vs ds) (lo hi : Option Int) : RepL K G (cutV vs lo hi) (cutD ds lo hi) := by
  unfold cutV cutD
  rw [r.length]
  exact (r.drop _).take _
theorem tSemP_mono {e : Option Expr} {σ : L2.St} {H : Hp} {Q Q' : Option Int → Hp → Prop} (h : tSemP X e σ H Q) (k : ∀ o H', Q o H' → Q' o H') : tSemP X e σ H Q' :=
  fun pins s I => thn (h pins s I) fun _ _ ⟨o, H', I', r, q⟩ => ⟨o, H', I', r, k o H' q⟩
variable {lo hi : Option Expr} {l h : Option Int}
theorem ee_slT {fs : List D} (ha : EE X ex a ρ (.tup ds)) (hl : EPt X ex lo ρ l) (hh : EPt X ex hi ρ h) (hres : cutD ds l h = fs) : EE X ex (.Subscript a (.Slice lo hi none p2) pos) ρ (.tup fs) := ⟨fun E σ G H S =>
  of_pe (pe_slice sl_tupA sem_pe sem_po sem_po) (tSem_mono (ha E σ G H S) fun v H1 ⟨G1, g1, r1⟩ => tSemP_mono (hl E σ G1 H1 (S.grow g1)) fun o1 H2 ⟨e1, G2, g2⟩ => tSemP_mono (hh E σ G2 H2 (S.grow (g1.trans g2))) fun o2 H3 ⟨e2, G3, g3⟩ => by
    subst e1 e2 hres
    have r3 := r1.mono (g2.trans g3).g
    cases r3 with
    | @tup _ xs _ h1 r =>
      refine ⟨_, _, rfl, g3.gh.t h1, fun w => ?_, fun _ p hp => ?_⟩
      · refine ⟨G3, (g1.trans g2).trans g3, ?_⟩
        have : cutD ds o1 o2 = ds := by
          unfold cutD
          rw [← r.length, w.1, w.2, List.drop_zero, Nat.sub_zero, r.length, List.take_length]
        rw [this]
        exact .tup h1 r
      · have g4 := Grow.new (u := .tup (cutV xs o1 o2)) g3.gh hp
        exact ⟨_, ((g1.trans g2).trans g3).trans g4, .tup (.inl (.inl upd_same)) ((r.cut o1 o2).mono g4.g)⟩)⟩
theorem eo_slL {fs : List D} (ha : EE X ex a ρ (.lst ds)) (hl : EPt X ex lo ρ l) (hh : EPt X ex hi ρ h) (hres : cutD ds l h = fs) : EO X ex (.Subscript a (.Slice lo hi none p2) pos) ρ (fun o => o = .ml fs) := ⟨fun E σ G H S =>
  of_pe (pe_slice sl_list sem_pe sem_po sem_po) (tSem_mono (ha E σ G H S) fun v H1 ⟨G1, g1, r1⟩ => tSemP_mono (hl E σ G1 H1 (S.grow g1)) fun o1 H2 ⟨e1, G2, g2⟩ => tSemP_mono (hh E σ G2 H2 (S.grow (g1.trans g2))) fun o2 H3 ⟨e2, G3, g3⟩ => by
    subst e1 e2 hres
    have r3 := r1.mono (g2.trans g3).g
    cases r3 with
    | @lst _ xs _ h1 r =>
      refine ⟨_, _, rfl, g3.gh.l h1, fun p hp => ?_⟩
      have g0 := (g1.trans g2).trans g3
      have g4 := Grow.newH (u := .lst (cutV xs o1 o2)) g3.gh hp
      exact ⟨.ml _, _, g0.trans g4, ⟨p, _, rfl, upd_same, g3.gh.back hp, g0.h.back hp, r.cut o1 o2⟩, rfl⟩)⟩

/-! ### in, not in: flat data -/
def D.flat : D → Bool
  | .non => true
  | .bl _ => true
  | .int _ => true
  | .str _ => true
  | _ => false
theorem Rep.flat {K : PySem.W.Frag} {G : Hp} {v : V} {d : D} (r : Rep K G v d) (h : d.flat = true) : flatV v = true := by
  cases r <;> first | rfl | cases h
theorem Rep.eqV {K : PySem.W.Frag} {G : Hp} {v w : V} {d e : D} (r : Rep K G v d) (s : Rep K G w e) (h : d.flat = true) (k : e.flat = true) : eqV v w = D.eqv d e := by
  cases r <;> first
    | cases h; done
    | (cases s <;> first | cases k; done | rfl)
theorem RepL.flat {K : PySem.W.Frag} {G : Hp} : ∀ {vs : List V} {ds : List D}, RepL K G vs ds → ds.all D.flat = true → vs.all flatV = true
  | _, _, .nil, _ => rfl
  | _, _, .cons r t, h => by
    rw [List.all_cons, Bool.and_eq_true] at h ⊢
    exact ⟨r.flat h.1, t.flat h.2⟩
theorem RepL.inV {K : PySem.W.Frag} {G : Hp} {v : V} {d : D} (r : Rep K G v d) (h : d.flat = true) : ∀ {vs : List V} {ds : List D}, RepL K G vs ds → ds.all D.flat = true → inV v vs = ds.any fun y => D.eqv y d
  | _, _, .nil, _ => rfl
  | _, _, .cons r' t, k => by
    rw [List.all_cons, Bool.and_eq_true] at k
    unfold L2.inV
    rw [List.any_cons, List.any_cons, r'.eqV r k.1 h]
    exact congrArg (_ || ·) (RepL.inV r h t k.2)
theorem bin_in {neg : Bool} (hi : d2.items = some ds) (hd : d1.flat = true) (hs : ds.all D.flat = true) : BinD X (rIn X.K neg) d1 d2 (.bl (if neg then !(ds.any fun y => D.eqv y d1) else ds.any fun y => D.eqv y d1)) := fun G H v w Q e r1 r2 q => by
  cases r2 with
  | tup h r =>
    cases hi
    exact ⟨_, _, rfl, .inr (e.t h), r1.flat hd, r.flat hs, by rw [RepL.inV r1 hd r hs]; exact q _ G H (.refl e) (.bl _)⟩
  | lst h r =>
    cases hi
    exact ⟨_, _, rfl, .inl (e.l h), r1.flat hd, r.flat hs, by rw [RepL.inV r1 hd r hs]; exact q _ G H (.refl e) (.bl _)⟩
  | _ => cases hi
theorem any_ints {ns : List Int} {i : Int} : ((ns.map D.int).any fun y => D.eqv y (.int i)) = decide (i ∈ ns) := by
  induction ns with
  | nil => simp
  | cons n ns ih =>
    rw [List.map_cons, List.any_cons, ih, eqv_int, Bool.eq_iff_iff]
    by_cases h : n = i
    · subst h; simp
    · simp [h, Ne.symm h]
theorem flat_ints {ns : List Int} : (ns.map D.int).all D.flat = true := by simp [D.flat]
theorem ee_in (ha : EE X ex a ρ d1) (hb : EE X ex b ρ d2) (hi : d2.items = some ds) (hd : d1.flat = true := by rfl) (hs : ds.all D.flat = true := by rfl) (hm : behindInMarks .In b = false := by rfl) : EE X ex (.Compare a [.In] [b] pos) ρ (.bl (ds.any fun y => D.eqv y d1)) := ee_cmp op_in_seq (bin_in (neg := false) hi hd hs) ha hb hm
theorem et_in (ha : EE X ex a ρ d1) (hb : EE X ex b ρ d2) (hi : d2.items = some ds) (hd : d1.flat = true := by rfl) (hs : ds.all D.flat = true := by rfl) (hm : behindInMarks .In b = false := by rfl) : ET X ex (.Compare a [.In] [b] pos) ρ (ds.any fun y => D.eqv y d1) := et_cmp op_in_seq (bin_in (neg := false) hi hd hs) ha hb hm
theorem ee_nin (ha : EE X ex a ρ d1) (hb : EE X ex b ρ d2) (hi : d2.items = some ds) (hd : d1.flat = true := by rfl) (hs : ds.all D.flat = true := by rfl) (hm : behindInMarks .NotIn b = false := by rfl) : EE X ex (.Compare a [.NotIn] [b] pos) ρ (.bl (!(ds.any fun y => D.eqv y d1))) := ee_cmp op_notIn_seq (bin_in (neg := true) hi hd hs) ha hb hm
theorem et_nin (ha : EE X ex a ρ d1) (hb : EE X ex b ρ d2) (hi : d2.items = some ds) (hd : d1.flat = true := by rfl) (hs : ds.all D.flat = true := by rfl) (hm : behindInMarks .NotIn b = false := by rfl) : ET X ex (.Compare a [.NotIn] [b] pos) ρ (!(ds.any fun y => D.eqv y d1)) := et_cmp op_notIn_seq (bin_in (neg := true) hi hd hs) ha hb hm

/-! ### list(..), tuple(..) -/
theorem cal_list (hi : d.items = some ds) : CalD X (fun xs H Q => ∃ p ys, xs = [.ref p] ∧ (SqL X.K H p ys ∨ SqT X.K H p ys) ∧ ∀ l, H l = none → Q (.ref l) (upd H l (.lst ys))) [d] (fun o => o = .ml ds) := fun G H vs Q e r q => by
  obtain ⟨v, rfl, r1⟩ := r.of1
  have fin : ∀ (ys : List V), RepL X.K G ys ds → ∀ l, H l = none → Q (.ref l) (upd H l (.lst ys)) := fun ys ry l hl =>
    q _ (.ml ds) _ _ (Grow.newH e hl) ⟨l, ys, rfl, upd_same, e.back hl, hl, ry⟩ rfl
  cases r1 with
  | tup h r2 => cases hi; exact ⟨_, _, rfl, .inr (e.t h), fin _ r2⟩
  | lst h r2 => cases hi; exact ⟨_, _, rfl, .inl (e.l h), fin _ r2⟩
  | _ => cases hi
theorem eo_list (hg : Gl X "list") (hm : X.mg "list" = none) (ha : EA X ex [e] ρ [d]) (hi : d.items = some ds) (he : starEach [e] X.env = (false, eval e X.env) :: starEach [] X.env := by rfl) (hpl : (backTo pos (starEach [] X.env)).any (·.1) = false := by rfl) : EO X ex (.Call (.Name "list" p) [e] [] pos) ρ (fun o => o = .ml ds) :=
  eo_cty call_list_of (cal_list hi) hg hm (by decide +kernel) ha (by decide) (by decide) he hpl
theorem ee_tuple (hg : Gl X "tuple") (hm : X.mg "tuple" = none) (ha : EA X ex [e] ρ [d]) (hi : d.items = some ds) (he : starEach [e] X.env = (false, eval e X.env) :: starEach [] X.env := by rfl) (hpl : (backTo pos (starEach [] X.env)).any (·.1) = false := by rfl) : EE X ex (.Call (.Name "tuple" p) [e] [] pos) ρ (.tup ds) :=
  ee_va (eo_cty call_tuple_of (fun G H vs Q e r q => by
    obtain ⟨v, rfl, r1⟩ := r.of1
    cases r1 with
    | tup h r2 => cases hi; exact ⟨_, _, rfl, .inr ⟨e.t h, q _ (.va _) G H (.refl e) (.tup h r2) rfl⟩⟩
    | @lst _ xs _ h r2 =>
      cases hi
      refine ⟨_, _, rfl, .inl ⟨e.l h, fun l hl => ?_⟩⟩
      have g := Grow.new (u := .tup xs) e hl
      exact q _ (.va _) _ _ g (.tup (.inl (.inl upd_same)) (r2.mono g.g)) rfl
    | _ => cases hi) hg hm (by decide +kernel) ha (by decide) (by decide) he hpl)

/-! ### what is walked -/
/-- J walks over ds -/
def Wk (K : PySem.W.Frag) (G : Hp) (J : It) (ds : List D) : Prop := ∀ (i : Nat) (G' H : Hp), Ex G G' → Ex G' H → (∀ d, ds[i]? = some d → J.go i H ∧ ∀ x H', J.yld i H x H' → ∃ G2, Grow G' H G2 H' ∧ Rep K G2 x d) ∧ (ds.length ≤ i → J.stop i H)
def tSemI (X : Cx) (tg iter : Expr) : TI := fun σ H R => ∀ (pins : List (Addr × Obj)) (s : Shared), Inv X pins σ H s → wpAny (model X.prog X.w) X.A (eval iter X.env) (fun v s1 => wpAny (model X.prog X.w) X.A (pyIter v) (PIE X pins σ tg R) X.xe s1) X.xe s
theorem sem_pi {tg iter : Expr} : PI X tg iter (tSemI X tg iter) := ⟨fun pins s _ _ _ I h => h pins s I⟩
theorem of_pi {tg iter : Expr} {t : TI} (h : PI X tg iter t) {σ : L2.St} {H : Hp} {R : It → Hp → Prop} (q : t σ H R) : tSemI X tg iter σ H R := fun pins s I => h.run pins s σ H R I q
theorem tSemI_mono {tg iter : Expr} {σ : L2.St} {H : Hp} {R R' : It → Hp → Prop} (h : tSemI X tg iter σ H R) (k : ∀ J H', R J H' → R' J H') : tSemI X tg iter σ H R' := fun pins s I =>
  thn (h pins s I) fun v s1 q => thn q fun u s2 ⟨it, fp, tn, J, H', e, I', T, t0, f, r⟩ => ⟨it, fp, tn, J, H', e, I', T, t0, f, k J H' r⟩
/-- iter walks over ds -/
structure EI (X : Cx) (ex : Exs) (tg iter : Expr) (ρ : List O) (ds : List D) : Prop where
  run : ∀ (E : Hp × Hp) (σ : L2.St) (G H : Hp), SOx X ex E ρ σ G H → tSemI X tg iter σ H fun J H' => ∃ G', Grow G H G' H' ∧ Wk X.K G' J ds
instance {X : Cx} {ex : Exs} {tg iter : Expr} {ρ : List O} {ds : List D} : CoeFun (EI X ex tg iter ρ ds) (fun _ => ∀ (E : Hp × Hp) (σ : L2.St) (G H : Hp), SOx X ex E ρ σ G H → tSemI X tg iter σ H fun J H' => ∃ G', Grow G H G' H' ∧ Wk X.K G' J ds) := ⟨EI.run⟩

variable {tg iter : Expr}
theorem ei_lst (h : EE X ex iter ρ (.lst ds)) : EI X ex tg iter ρ ds := ⟨fun E σ G H S =>
  of_pi (pi_list sem_pe) (tSem_mono (h E σ G H S) fun v H1 ⟨G1, g, r⟩ => by
    cases r with
    | @lst a xs _ hl rl =>
      refine ⟨a, rfl, ⟨xs, g.gh.l hl⟩, G1, g, fun i G' H' e1 e2 => ⟨fun d hd => ?_, fun hle => ⟨xs, e2.l (e1.l hl), by rw [rl.length]; exact hle⟩⟩⟩
      obtain ⟨v, hv, rv⟩ := rl.get hd
      refine ⟨⟨xs, v, e2.l (e1.l hl), hv⟩, fun x H2 ⟨e, hx⟩ => ?_⟩
      have := hx xs (e2.l (e1.l hl))
      rw [hv] at this; cases this
      subst e
      exact ⟨G', .refl e2, rv.mono e1⟩)⟩
theorem ei_tup (h : EE X ex iter ρ (.tup ds)) : EI X ex tg iter ρ ds := ⟨fun E σ G H S =>
  of_pi (pi_tup sem_pe) (tSem_mono (h E σ G H S) fun v H1 ⟨G1, g, r⟩ => by
    cases r with
    | @tup a xs _ hl rl =>
      refine ⟨a, rfl, ⟨xs, g.gh.t hl⟩, G1, g, fun i G' H' e1 e2 => ⟨fun d hd => ?_, fun hle => ⟨xs, e2.t (e1.t hl), by rw [rl.length]; exact hle⟩⟩⟩
      obtain ⟨v, hv, rv⟩ := rl.get hd
      refine ⟨⟨xs, v, e2.t (e1.t hl), hv⟩, fun x H2 ⟨e, hx⟩ => ?_⟩
      have := hx xs (e2.t (e1.t hl))
      rw [hv] at this; cases this
      subst e
      exact ⟨G', .refl e2, rv.mono e1⟩)⟩
def upTo (lo : Int) (n : Nat) : List D := (List.range n).map fun (k : Nat) => D.int (lo + (k : Int))
theorem upTo_get {lo : Int} {n i : Nat} {d : D} (h : (upTo lo n)[i]? = some d) : i < n ∧ d = .int (lo + (i : Int)) := by
  unfold upTo at h
  rw [List.getElem?_map] at h
  by_cases hi : i < n
  · rw [List.getElem?_range hi] at h
    exact ⟨hi, (Option.some.inj h).symm⟩
  · rw [List.getElem?_eq_none (by rw [List.length_range]; omega)] at h
    cases h
theorem upTo_get0 {n i : Nat} {d : D} (h : (upTo 0 n)[i]? = some d) : i < n ∧ d = .int (i : Int) := by
  have := upTo_get h
  rwa [Int.zero_add] at this
theorem upTo_length {lo : Int} {n : Nat} : (upTo lo n).length = n := by unfold upTo; rw [List.length_map, List.length_range]
theorem wk_range {K : PySem.W.Frag} {G : Hp} {lo : Int} {n : Nat} : Wk K G (Itr lo n) (upTo lo n) := fun i G' H e1 e2 => ⟨fun d hd => by
  obtain ⟨hi, rfl⟩ := upTo_get hd
  exact ⟨hi, fun x H' ⟨e, hx⟩ => by subst e hx; exact ⟨G', .refl e2, .int _⟩⟩, fun hle => by rw [upTo_length] at hle; exact hle⟩
theorem ei_range {cpos : Pos} {n : Int} (hm : X.mg "range" = none) (h : EA X ex [a] ρ [.int n]) (hn : -(2 ^ 62) ≤ n ∧ n < 2 ^ 62) (hg : Gl X "range" := by rfl) (hst : starEach [a] X.env = [(false, eval a X.env)] := by rfl) : EI X ex tg (.Call (.Name "range" p) [a] [] cpos) ρ (upTo 0 n.toNat) := ⟨fun E σ G H S =>
  of_pi (pi_range1 hg hm sem_pa hst) (tSemA_mono (h E σ G H S) fun vs H1 ⟨G1, g, r⟩ => by
    obtain ⟨v, rfl, r1⟩ := r.of1
    cases r1
    exact ⟨n, rfl, hn.1, hn.2, G1, g, wk_range⟩)⟩
theorem ei_range2 {cpos : Pos} {lo n : Int} (hm : X.mg "range" = none) (h : EA X ex [a, b] ρ [.int lo, .int n]) (hn : -(2 ^ 62) ≤ lo ∧ lo < 2 ^ 62 ∧ -(2 ^ 62) ≤ n ∧ n < 2 ^ 62) (hg : Gl X "range" := by rfl) (hst : starEach [a, b] X.env = [(false, eval a X.env), (false, eval b X.env)] := by rfl) (hst2 : starEach [b] X.env = [(false, eval b X.env)] := by rfl) : EI X ex tg (.Call (.Name "range" p) [a, b] [] cpos) ρ (upTo lo (n - lo).toNat) := ⟨fun E σ G H S =>
  of_pi (pi_range2 hg hm sem_pa hst hst2) (tSemA_mono (h E σ G H S) fun vs H1 ⟨G1, g, r⟩ => by
    obtain ⟨v, w, rfl, r1, r2⟩ := r.of2
    cases r1; cases r2
    exact ⟨lo, n, rfl, hn, G1, g, wk_range⟩)⟩

/-! ### [elt for target in iter if test] -/
/-- the comprehension's own context -/
abbrev Blk (X : Cx) (s : Shared) (H : Hp) (scope : Scope) (cl : List (Str × Addr)) (C : Addr) (fp : List Addr) : Cx := X.blk s H scope (compEnvC scope cl C X.env) fp
/-- what a comprehension gives: f is none where the test fails -/
def pick (f : Nat → D → Option D) : Nat → List D → List D
  | _, [] => []
  | k, d :: r => (match f k d with | some y => [y] | none => []) ++ pick f (k + 1) r
theorem pick_snoc (f : Nat → D → Option D) : ∀ (ds : List D) (k : Nat) (d : D), pick f k (ds ++ [d]) = pick f k ds ++ (match f (k + ds.length) d with | some y => [y] | none => [])
  | [], k, d => by simp [pick]
  | e :: r, k, d => by
    rw [List.cons_append]
    show _ ++ pick f (k + 1) (r ++ [d]) = (_ ++ pick f (k + 1) r) ++ _
    rw [pick_snoc f r (k + 1) d, List.append_assoc, List.length_cons, show k + 1 + r.length = k + (r.length + 1) by omega]
theorem take_snoc {α : Type} {l : List α} {i : Nat} {x : α} (h : l[i]? = some x) : l.take (i + 1) = l.take i ++ [x] := by
  rw [List.take_add_one, h]; rfl
theorem pick_all {f : Nat → D → D} : ∀ (ds : List D) (k : Nat), pick (fun k d => some (f k d)) k ds = ds.mapIdx fun j d => f (k + j) d
  | [], _ => rfl
  | d :: r, k => by
    show [f k d] ++ pick _ (k + 1) r = _
    rw [pick_all r (k + 1), List.mapIdx_cons]
    simp [Nat.add_assoc, Nat.add_comm 1]
theorem pick_len {f : Nat → D → Option D} : ∀ (ds : List D) (k : Nat), (pick f k ds).length ≤ ds.length
  | [], _ => Nat.le_refl _
  | d :: r, k => by
    show (_ ++ pick f (k + 1) r).length ≤ r.length + 1
    rw [List.length_append]
    have := pick_len (f := f) r (k + 1)
    split <;> simp <;> omega
/-- a clause's tests -/
def tSemTs (X : Cx) (ifs : List Expr) : TT := fun σ H Q => ∀ (pins : List (Addr × Obj)) (s : Shared), Inv X pins σ H s →
  wpAny (model X.prog X.w) X.A (forIn ifs true fun c r => if r = true then do let ok ← isTrue c X.env (eval c X.env); pure (ForInStep.yield ok) else pure (ForInStep.yield r)) (TP X pins σ Q) X.xe s
theorem sem_pts {ifs : List Expr} : PTs X ifs (tSemTs X ifs) := ⟨fun pins s _ _ _ I h => h pins s I⟩
structure ETs (X : Cx) (ex : Exs) (ifs : List Expr) (ρ : List O) (b : Bool) : Prop where
  run : ∀ (E : Hp × Hp) (σ : L2.St) (G H : Hp), SOx X ex E ρ σ G H → tSemTs X ifs σ H fun c H' => c = b ∧ ∃ G', Grow G H G' H'
instance {X : Cx} {ex : Exs} {ifs : List Expr} {ρ : List O} {b : Bool} : CoeFun (ETs X ex ifs ρ b) (fun _ => ∀ (E : Hp × Hp) (σ : L2.St) (G H : Hp), SOx X ex E ρ σ G H → tSemTs X ifs σ H fun c H' => c = b ∧ ∃ G', Grow G H G' H') := ⟨ETs.run⟩

theorem ets_nil : ETs X ex [] ρ true := ⟨fun E σ G H S pins s I => pts_nil.run pins s σ H _ I ⟨rfl, G, .refl S.gh⟩⟩
theorem ets_one {c : Expr} {t : Bool} (h : ET X ex c ρ t) : ETs X ex [c] ρ t := ⟨fun E σ G H S pins s I => (pts_one sem_pt).run pins s σ H _ I (h E σ G H S)⟩
theorem tSemTs_mono {ifs : List Expr} {σ : L2.St} {H : Hp} {Q Q' : Bool → Hp → Prop} (h : tSemTs X ifs σ H Q) (k : ∀ v H', Q v H' → Q' v H') : tSemTs X ifs σ H Q' :=
  fun pins s I => thn (h pins s I) fun _ _ ⟨H', I', q⟩ => ⟨H', I', k _ H' q⟩
/-- slots of the block's names emptied -/
def wipeO (ρ : List O) : List Nat → List O
  | [] => ρ
  | v :: vs => (wipeO ρ vs).set v .un
theorem SOk.unset {K : PySem.W.Frag} {E : Hp × Hp} {σ : L2.St} {G H : Hp} (S : SOk K E ρ σ G H) (i : Nat) : SOk K E (ρ.set i .un) (σ.set i none) G H := S.gone i
theorem SOk.wipe {K : PySem.W.Frag} {E : Hp × Hp} {σ : L2.St} {G H : Hp} (S : SOk K E ρ σ G H) : ∀ vs : List Nat, SOk K E (wipeO ρ vs) (L2.wipe σ vs) G H
  | [] => S
  | v :: vs => (SOk.wipe S vs).unset v
theorem wipe_set {σ : L2.St} {v : Option V} : ∀ {vs : List Nat} {i : Nat}, i ∈ vs → L2.wipe (σ.set i v) vs = L2.wipe σ vs
  | w :: vs, i, h => by
    show (L2.wipe (σ.set i v) vs).set w none = (L2.wipe σ vs).set w none
    by_cases hi : i ∈ vs
    · rw [wipe_set hi]
    · have e : i = w := by
        rcases List.mem_cons.mp h with h | h
        · exact h
        · exact absurd h hi
      subst e
      have : ∀ (us : List Nat) (τ : L2.St), (L2.wipe (τ.set i v) us).set i none = (L2.wipe τ us).set i none := fun us => by
        induction us with
        | nil => intro τ; show (τ.set i v).set i none = τ.set i none; rw [List.set_set]
        | cons u us ih =>
          intro τ
          show ((L2.wipe (τ.set i v) us).set u none).set i none = ((L2.wipe τ us).set u none).set i none
          by_cases hu : u = i
          · subst hu
            rw [List.set_set, List.set_set, ih τ]
          · rw [List.set_comm _ _ hu, List.set_comm _ _ hu, ih τ]
      exact this vs σ
/-- the block's target takes d; of the slots only the block's change -/
structure ATb (X : Cx) (vs : List Nat) (tg : Expr) (d : D) (ρ ρ' : List O) : Prop where
  run : ∀ (E : Hp × Hp) (σ : L2.St) (G H : Hp) (v : V), SOk X.K E ρ σ G H → Rep X.K G v d → tSemG X tg v σ H fun σ' H' => (H' = H ∧ SOk X.K E ρ' σ' G H) ∧ L2.wipe σ' vs = L2.wipe σ vs
instance {X : Cx} {vs : List Nat} {tg : Expr} {d : D} {ρ ρ' : List O} : CoeFun (ATb X vs tg d ρ ρ') (fun _ => ∀ (E : Hp × Hp) (σ : L2.St) (G H : Hp) (v : V), SOk X.K E ρ σ G H → Rep X.K G v d → tSemG X tg v σ H fun σ' H' => (H' = H ∧ SOk X.K E ρ' σ' G H) ∧ L2.wipe σ' vs = L2.wipe σ vs) := ⟨ATb.run⟩

structure ATbs (X : Cx) (vs : List Nat) (ts : List Expr) (ds : List D) (ρ ρ' : List O) : Prop where
  run : ∀ (E : Hp × Hp) (σ : L2.St) (G H : Hp) (ws : List V), SOk X.K E ρ σ G H → RepL X.K G ws ds → tSemGs X ts ws σ H fun σ' H' => (H' = H ∧ SOk X.K E ρ' σ' G H) ∧ L2.wipe σ' vs = L2.wipe σ vs
instance {X : Cx} {vs : List Nat} {ts : List Expr} {ds : List D} {ρ ρ' : List O} : CoeFun (ATbs X vs ts ds ρ ρ') (fun _ => ∀ (E : Hp × Hp) (σ : L2.St) (G H : Hp) (ws : List V), SOk X.K E ρ σ G H → RepL X.K G ws ds → tSemGs X ts ws σ H fun σ' H' => (H' = H ∧ SOk X.K E ρ' σ' G H) ∧ L2.wipe σ' vs = L2.wipe σ vs) := ⟨ATbs.run⟩

theorem ab_name {vs : List Nat} (i : Nat) (hv : i ∈ vs := by decide) (hN : X.N.Nodup) (hi : X.N[i]? = some x := by rfl) (hx : Loc X.env.scope x := by first | exact Or.inl rfl | exact Or.inr rfl) (hf : X.fn x = true ∨ X.env.scope.names.lookup x = some .local := by first | exact .inl rfl | exact .inr rfl) : ATb X vs (.Name x pos) d ρ (ρ.set i (.va d)) := ⟨fun E σ G H v S r =>
  of_pg (pg_name hN hi hx hf) ⟨⟨rfl, S.set i (o := .va d) r fun h => absurd h Bool.false_ne_true⟩, wipe_set hv⟩⟩
theorem abs_nil {vs : List Nat} : ATbs X vs [] [] ρ ρ := ⟨fun E σ G H ws S r => by
  cases r
  exact of_pgs pgs_nil ⟨rfl, ⟨rfl, S⟩, rfl⟩⟩
theorem abs_cons {vs : List Nat} {tg : Expr} {ts : List Expr} {ρ1 ρ2 : List O} (h : ATb X vs tg d ρ ρ1) (t : ATbs X vs ts ds ρ1 ρ2) (hs : (assignEach (tg :: ts) X.env).map (·.2) = assign tg X.env :: (assignEach ts X.env).map (·.2) := by rfl) : ATbs X vs (tg :: ts) (d :: ds) ρ ρ2 := ⟨fun E σ G H ws S r => by
  cases r with
  | cons r1 r2 =>
    refine of_pgs (pgs_cons sem_pg sem_pgs hs) ⟨_, _, rfl, tSemG_mono (h E σ G H _ S r1) fun σ' H' ⟨⟨e, S'⟩, q⟩ => ?_⟩
    subst e
    exact tSemGs_mono (t E σ' G _ _ S' r2) fun σ2 H2 ⟨a, q2⟩ => ⟨a, q2.trans q⟩⟩
theorem ab_tup {vs : List Nat} {ts : List Expr} {k : Nat} {ρ1 : List O} (h : ATbs X vs ts ds ρ ρ1) (hc : X.calm = true := by rfl) (hn : (assignEach ts X.env).length = ds.length := by rfl) (hst : (assignEach ts X.env).findIdx? (·.1) = none := by rfl) : ATb X vs (.Tuple ts k pos) (.tup ds) ρ ρ1 := ⟨fun E σ G H v S r => by
  cases r with
  | tup h1 r1 =>
    exact of_pg (pg_tup hc sem_pgs hn hst) ⟨_, _, rfl, S.gh.t h1, by rw [r1.length], h E σ G H _ S r1⟩⟩
/-- a turn of the comprehension -/
def LcTurn (X : Cx) (scope : Scope) (vs : List Nat) (tg elt : Expr) (ifs : List Expr) (ρ : List O) (ds : List D) (f : Nat → D → Option D) : Prop := ∀ (k : Nat) (d : D), ds[k]? = some d → ∃ (ρ2 : List O) (t : Bool),
  (∀ s H cl C fp, ATb (Blk X s H scope cl C fp) vs tg d (wipeO ρ vs) ρ2) ∧ (∀ s H cl C fp, ETs (Blk X s H scope cl C fp) noX ifs ρ2 t) ∧
  (t = true → ∃ y, f k d = some y ∧ ∀ s H cl C fp, EE (Blk X s H scope cl C fp) noX elt ρ2 y) ∧ (t = false → f k d = none)
theorem lc_run {vs : List Nat} {scope : Scope} {elt tg iter : Expr} {ifs : List Expr} {f : Nat → D → Option D} (hI : EI X ex tg iter ρ ds) (hl : ds.length ≤ sizeLine) (ht : LcTurn X scope vs tg elt ifs ρ ds f) {E : Hp × Hp} {σ : L2.St} {G H : Hp} (S : SOx X ex E ρ σ G H) {Q : VK}
    (q : ∀ v G' H', Grow G H G' H' → OOk X.K H G' H' (.ml (pick f 0 ds)) v → Q v H') :
    tLc (tSemI X tg iter) (fun v σ H Q => ∀ s H0 cl C fp, tSemG (Blk X s H0 scope cl C fp) tg v σ H Q) (fun σ H Q => ∀ s H0 cl C fp, tSemTs (Blk X s H0 scope cl C fp) ifs σ H Q) (fun σ H Q => ∀ s H0 cl C fp, tSem (Blk X s H0 scope cl C fp) elt σ H Q) vs σ H Q := by
  refine tSemI_mono (hI E σ G H S) fun J H1 ⟨G1, g1, wk⟩ => fun DD hD => ?_
  refine ⟨fun i m H' => m = ds.length - i ∧ i ≤ ds.length ∧ ∃ G2 ys, Grow G1 H1 G2 H' ∧ H' DD = some (.lst ys) ∧ G2 DD = none ∧ RepL X.K G2 ys (pick f 0 (ds.take i)), ⟨ds.length, by simp, Nat.zero_le _, G1, [], Grow.newH g1.gh hD, upd_same, g1.gh.back hD, .nil⟩, ?_⟩
  rintro i m H' ⟨rfl, hi, G2, ys, g2, hH, hG, r⟩
  have w := wk i G2 H' g2.g g2.gh
  by_cases hlt : i < ds.length
  · obtain ⟨go, yl⟩ := w.1 ds[i] (List.getElem?_eq_getElem hlt)
    refine .inr ⟨go, fun H'' => i < ds.length ∧ ∃ G2 ys, Grow G1 H1 G2 H'' ∧ H'' DD = some (.lst ys) ∧ G2 DD = none ∧ RepL X.K G2 ys (pick f 0 (ds.take (i + 1))), fun H'' ⟨_, z⟩ => ⟨ds.length - (i + 1), by omega, rfl, hlt, z⟩, fun x H3 hy => ?_⟩
    obtain ⟨G3, g3, rx⟩ := yl x H3 hy
    obtain ⟨ρ2, t, h1, h2, h3, h4⟩ := ht i _ (List.getElem?_eq_getElem hlt)
    have gg := g2.trans g3
    have S3 : SOk X.K E (wipeO ρ vs) (L2.wipe σ vs) G3 H3 := (S.toSOk.wipe vs).grow (g1.trans gg)
    have keepD : ∀ {G4 H4 : Hp}, Grow G3 H3 G4 H4 → H4 DD = some (.lst ys) ∧ G4 DD = none := fun {G4 H4} g => by
      refine ⟨g.h _ _ (g3.h _ _ hH), ?_⟩
      cases z : G4 DD with
      | none => rfl
      | some u =>
        have e3 : G3 DD = none := by
          cases z3 : G3 DD with
          | none => rfl
          | some u3 => exact absurd (g3.fr DD hG (by rw [z3]; simp)) (by rw [hH]; simp)
        exact absurd (g.fr DD e3 (by rw [z]; simp)) (by rw [g3.h _ _ hH]; simp)
    have pk := pick_snoc f (ds.take i) 0 ds[i]
    rw [← take_snoc (List.getElem?_eq_getElem hlt), Nat.zero_add, List.length_take, Nat.min_eq_left hi] at pk
    intro s0 H0 cl C fp
    refine tSemG_mono (h1 s0 H0 cl C fp E _ G3 H3 x S3 rx) fun σ2 H2 ⟨⟨e, S4⟩, wq⟩ => ?_
    subst e
    refine ⟨wq.trans ?_, fun s0 H0 cl C fp => tSemTs_mono (h2 s0 H0 cl C fp E σ2 G3 _ (SOk.nox (X := Blk X s0 H0 scope cl C fp) S4)) fun b H4 ⟨eb, G4, g4⟩ => ?_⟩
    · have : ∀ us : List Nat, L2.wipe (L2.wipe σ us) us = L2.wipe σ us := fun us => by
        have key : ∀ (us ws : List Nat), (∀ u ∈ us, u ∈ ws) → L2.wipe (L2.wipe σ us) ws = L2.wipe σ ws := fun us => by
          induction us with
          | nil => intro ws _; rfl
          | cons u us ih =>
            intro ws hm
            show L2.wipe ((L2.wipe σ us).set u none) ws = _
            rw [wipe_set (hm u List.mem_cons_self), ih ws fun u hu => hm u (List.mem_cons_of_mem _ hu)]
        exact key us us fun _ h => h
      exact this vs
    subst eb
    cases b with
    | true =>
      rw [if_pos rfl]
      obtain ⟨y, hf, hy⟩ := h3 rfl
      intro s0 H0 cl C fp
      refine tSem_mono (hy s0 H0 cl C fp E σ2 G4 H4 (SOk.nox (X := Blk X s0 H0 scope cl C fp) (S4.grow g4))) fun v H5 ⟨G5, g5, rv⟩ => ?_
      have g45 := g4.trans g5
      obtain ⟨k1, k2⟩ := keepD g45
      have gt := gg.trans g45
      refine ⟨ys, k1, ?_, hlt, G5, ys ++ [v], ?_, upd_same, k2, ?_⟩
      · rw [r.length]
        have := pick_len (f := f) (ds.take i) 0
        rw [List.length_take] at this
        omega
      · refine ⟨gt.g, fun b u hb => ?_, ?_, gt.fr⟩
        · rw [upd_ne (ne_of_none hb hD)]; exact gt.h b u hb
        · exact gt.gh.mut k2
      · rw [pk, hf]
        exact (r.mono (g3.trans g45).g).append (.one rv)
    | false =>
      rw [if_neg Bool.false_ne_true]
      obtain ⟨k1, k2⟩ := keepD g4
      refine ⟨hlt, G4, ys, gg.trans g4, k1, k2, ?_⟩
      rw [pk, h4 rfl, List.append_nil]
      exact r.mono (g3.trans g4).g
  · have e : i = ds.length := by omega
    subst e
    rw [List.take_length] at r
    refine .inl ⟨w.2 (Nat.le_refl _), q _ G2 H' (g1.trans g2) ⟨DD, ys, rfl, hH, hG, ?_, r⟩⟩
    exact g1.h.back hD
/-- [elt for target in iter if test] as a value -/
theorem eo_lc {scope : Scope} {elt tg iter : Expr} {ifs : List Expr} {f : Nat → D → Option D} (own : List (Str × Nat)) (hI : EI X ex tg iter ρ ds) (hN : X.N.Nodup) (ok : BlkOk X.N X.env.scope scope own) (hl : ds.length ≤ sizeLine) (ht : LcTurn X scope (own.map (·.2)) tg elt ifs ρ ds f) (hc : X.calm = true := by rfl) (hs : ∀ x, foldedSetIterable iter X.env x = pure x := by intro _; rfl) :
    EO X ex (.ListComp elt [⟨tg, iter, ifs, 0⟩] scope pos) ρ (fun o => o = .ml (pick f 0 ds)) := ⟨fun E σ G H S =>
  of_pe (pe_lc hc hN sem_pi ok (fun s H C cl fp => ⟨fun pins s1 σ H v u Q I r h => h s _ cl C fp pins s1 u I r⟩) (fun s H C cl fp => ⟨fun pins s1 σ H Q I h => h s _ cl C fp pins s1 I⟩) (fun s H C cl fp => ⟨fun pins s1 σ H Q I h => h s _ cl C fp pins s1 I⟩) hs)
    (lc_run hI hl ht S fun v G' H' g o => ⟨_, G', g, o, rfl⟩)⟩
/-- x = [elt for ..] on one line -/
theorem ws_setLc (i : Nat) {W : Eds} {y : Str} {py spos : Pos} {scope : Scope} {elt tg iter : Expr} {ifs : List Expr} {f : Nat → D → Option D} (own : List (Str × Nat)) (hI : EI X ex tg iter ρ ds) (hN : X.N.Nodup) (ok : BlkOk X.N X.env.scope scope own) (hl : ds.length ≤ sizeLine) (ht : LcTurn X scope (own.map (·.2)) tg elt ifs ρ ds f)
    (k : W.nx (ρ.set i (.ml (pick f 0 ds)))) (hc : X.calm = true := by rfl) (hy : X.N[i]? = some y := by rfl) (hyl : X.env.scope.names.lookup y = some .local := by rfl) (hsw : swapsWith (.ListComp elt [⟨tg, iter, ifs, 0⟩] scope pos) (some (.Name y py)) spos.line X.env = pure true := by exact sw_true rfl rfl rfl rfl) (hs : ∀ x, foldedSetIterable iter X.env x = pure x := by intro _; rfl) :
    WS X ex (.Assign [.Name y py] (.ListComp elt [⟨tg, iter, ifs, 0⟩] scope pos) spos) ρ W := ⟨fun E σ G H S =>
  of_ps (ps_setLc hc hN hy hyl hsw sem_pi ok (fun s H C cl fp => ⟨fun pins s1 σ H v u Q I r h => h s _ cl C fp pins s1 u I r⟩) (fun s H C cl fp => ⟨fun pins s1 σ H Q I h => h s _ cl C fp pins s1 I⟩) (fun s H C cl fp => ⟨fun pins s1 σ H Q I h => h s _ cl C fp pins s1 I⟩) hs)
    (lc_run hI hl ht S fun v G' H' g o => ⟨_, G', set_own S.toSOk g o i, g.g, k⟩)⟩
end
theorem cat_ok {m n : Nat} (h : Nat.ble (m + n) 64 = true) : m + n ≤ sizeLine := Nat.le_trans (Nat.le_of_ble_eq_true h) (by decide)
theorem len_ok3 {n : Nat} (h : n ≤ 1000000) : n ≤ sizeLine := Nat.le_trans h (by decide)
theorem in_pm (i : Int) : ([D.int 1, D.int (-1)].any fun y => D.eqv y (.int i)) = decide (i = 1 ∨ i = -1) := by
  have := any_ints (ns := [1, -1]) (i := i)
  rw [show ([1, -1] : List Int).map D.int = [D.int 1, D.int (-1)] from rfl] at this
  rw [this, Bool.eq_iff_iff]
  simp
/-- a slice of ints -/
theorem cut_ints {ns : List Int} (k : Nat) {i : Int} (e : i = (k : Int)) (h : k ≤ ns.length) : cutD (ns.map .int) (some i) none = (ns.drop k).map .int := by
  subst e
  unfold cutD
  rw [HT.sIx_nat, HT.sIx_none, List.length_map, Nat.min_eq_left h, ← List.map_drop, List.take_of_length_le (by rw [List.length_map, List.length_drop]; exact Nat.le_refl _)]
theorem atI_at {ds : List D} {d : D} (k : Nat) {i : Int} (e : i = (k : Int)) (h : ds[k]? = some d) : atI ds i = some d := by
  subst e; exact atI_nat h
theorem cut_lo {ds : List D} (k : Nat) {i : Int} (e : i = (k : Int)) (h : k ≤ ds.length) : cutD ds none (some i) = ds.take k := by
  subst e
  unfold cutD
  rw [HT.sIx_nat, HT.sIx_none, List.drop_zero, Nat.min_eq_left h, Nat.sub_zero]
theorem getD_drop {ns : List Int} {j k : Nat} : (ns.drop j).getD k 0 = ns.getD (j + k) 0 := by simp [List.getD]
end TG
/-! Fractions as rational numbers. -/
namespace TG
/-- a fraction in lowest terms as data -/
abbrev rq (q : Rat) : D := fr q.num (q.den : Int)
theorem rq_pos (q : Rat) : 0 < (q.den : Int) := by have := q.den_pos; omega
theorem rq_ne (q : Rat) : (q.den : Int) ≠ 0 := Int.ne_of_gt (rq_pos q)
theorem rq_gcd (q : Rat) : Int.gcd q.num (q.den : Int) = 1 := q.reduced
theorem rq_cross {n d : Int} (h : d ≠ 0) : (Rat.divInt n d).num * d = n * ((Rat.divInt n d).den : Int) := by
  have e := Rat.num_divInt_den (Rat.divInt n d)
  exact (Rat.divInt_eq_divInt_iff (rq_ne _) h).mp e
theorem rq_frac {n d : Int} (h : d ≠ 0) : fr (fN n d) (fD n d) = rq (Rat.divInt n d) := by
  obtain ⟨h1, h2⟩ := fr_eq (rq_pos (Rat.divInt n d)) (rq_gcd _) h (rq_cross h)
  rw [h1, h2]
theorem rq_inj {p q : Rat} (h1 : p.num = q.num) (h2 : p.den = q.den) : p = q := Rat.ext h1 h2
/-- its numbers are small -/
structure Rz (k : Nat) (q : Rat) : Prop where
  num : Sz k q.num
  den : Sz k (q.den : Int)
theorem Rz.mono {k j : Nat} {q : Rat} (h : Rz k q) (l : k ≤ j) : Rz j q := ⟨h.num.mono l, h.den.mono l⟩
theorem rz_divInt {k : Nat} {n d : Int} (h : d ≠ 0) (hn : Sz k n) (hd : Sz k d) : Rz k (Rat.divInt n d) := by
  obtain ⟨h1, h2⟩ := fr_eq (rq_pos (Rat.divInt n d)) (rq_gcd _) h (rq_cross h)
  have := fr_ok h hn hd
  rw [h1, h2] at this
  exact ⟨this.num, this.den⟩
theorem rat_add {p q : Rat} : Rat.divInt (p.num * q.den + q.num * p.den) (p.den * q.den) = p + q := by
  rw [← Rat.divInt_add_divInt _ _ (rq_ne p) (rq_ne q), Rat.num_divInt_den, Rat.num_divInt_den]
theorem rat_sub {p q : Rat} : Rat.divInt (p.num * q.den - q.num * p.den) (p.den * q.den) = p - q := by
  rw [← Rat.divInt_sub_divInt _ _ (rq_ne p) (rq_ne q), Rat.num_divInt_den, Rat.num_divInt_den]
theorem rat_mul {p q : Rat} : Rat.divInt (p.num * q.num) (p.den * q.den) = p * q := by
  rw [← Rat.divInt_mul_divInt, Rat.num_divInt_den, Rat.num_divInt_den]
theorem Rz.add {m n : Nat} {p q : Rat} (h : Rz m p) (k : Rz n q) : Rz (m + n + 1) (p + q) := by
  rw [← rat_add]
  exact rz_divInt (mul_ne (rq_ne p) (rq_ne q)) (((h.num.mul k.den).add (k.num.mul h.den)).mono (by omega)) ((h.den.mul k.den).mono (by omega))
theorem Rz.sub {m n : Nat} {p q : Rat} (h : Rz m p) (k : Rz n q) : Rz (m + n + 1) (p - q) := by
  rw [← rat_sub]
  exact rz_divInt (mul_ne (rq_ne p) (rq_ne q)) (((h.num.mul k.den).sub (k.num.mul h.den)).mono (by omega)) ((h.den.mul k.den).mono (by omega))
theorem Rz.mul {m n : Nat} {p q : Rat} (h : Rz m p) (k : Rz n q) : Rz (m + n) (p * q) := by
  rw [← rat_mul]
  exact rz_divInt (mul_ne (rq_ne p) (rq_ne q)) (h.num.mul k.num) (h.den.mul k.den)
theorem Rz.neg {m : Nat} {p : Rat} (h : Rz m p) : Rz m (-p) := ⟨h.num.neg, h.den⟩
theorem rz_int {m : Nat} {i : Int} (h : Sz m i) (hm : 0 < m := by decide) : Rz m (i : Rat) := ⟨h, by
  show Sz m 1
  have : 2 ^ 1 ≤ 2 ^ m := Nat.pow_le_pow_right (by decide) hm
  unfold Sz; show 1 < _; omega⟩
theorem rq_int (i : Int) : rq (i : Rat) = fr i 1 := rfl
theorem rq_zero : rq 0 = fr 0 1 := rfl
theorem rq_one : rq 1 = fr 1 1 := rfl
theorem rq_neg {p : Rat} : rq (-p) = fr (0 - p.num) p.den := by
  rw [Int.zero_sub]; rfl
theorem rat_div {n d : Int} : Rat.divInt n d = (n : Rat) / (d : Rat) := Rat.divInt_eq_div n d
theorem rat_den {p : Rat} : ((p.den : Int) : Rat) ≠ 0 := by
  intro h
  have : (p.den : Int) = 0 := by exact_mod_cast h
  exact rq_ne p this
theorem rat_num {p : Rat} : (p.num : Rat) = p * ((p.den : Int) : Rat) := by
  have h := Rat.num_divInt_den p
  rw [rat_div] at h
  have k := Rat.div_mul_cancel (a := (p.num : Rat)) (rat_den (p := p))
  rw [h] at k
  exact k.symm
theorem rat_eq_div {p : Rat} {n d : Int} (h : d ≠ 0) (e : (n : Rat) = p * (d : Rat)) : Rat.divInt n d = p := by
  have hd : (d : Rat) ≠ 0 := by
    intro z
    exact h (by exact_mod_cast z)
  rw [rat_div, e, Rat.mul_div_cancel hd]
theorem rat_led {a b : Int} {p q : Rat} : Rat.divInt (a * (p.num * q.den) + b * (q.num * p.den)) (p.den * q.den) = a * p + b * q := by
  refine rat_eq_div (mul_ne (rq_ne p) (rq_ne q)) ?_
  rw [Rat.intCast_add, Rat.intCast_mul, Rat.intCast_mul, Rat.intCast_mul, Rat.intCast_mul, Rat.intCast_mul, @rat_num p, @rat_num q]
  generalize ((p.den : Int) : Rat) = u
  generalize ((q.den : Int) : Rat) = v
  generalize (a : Rat) = a
  generalize (b : Rat) = b
  grind
theorem Sz.nn2 {n : Nat} {x : Int} (lo hi : Int) (h : lo ≤ x ∧ x ≤ hi) (hl : (-(2 ^ n : Int) < lo) ∧ hi < (2 ^ n : Int)) : Sz n x := by
  unfold Sz
  have : ((2 ^ n : Nat) : Int) = (2 : Int) ^ n := by simp
  omega
theorem rz0 : Rz 1 0 := ⟨sz_lit rfl, sz_lit rfl⟩
theorem sz_num {n : Int} : Sz (n.natAbs.log2 + 1) n := by
  unfold Sz
  by_cases h : n.natAbs = 0
  · rw [h]; decide
  · exact (Nat.log2_lt h).mp (Nat.lt_succ_self _)
theorem plains_map {α : Type} {f : α → D} (hf : ∀ x, (f x).plain = true) : ∀ l : List α, D.plains (l.map f) = true
  | [] => rfl
  | x :: l => by
    show (D.plain (f x) && D.plains (l.map f)) = true
    rw [hf x, plains_map hf l]; rfl
theorem depths_map {α : Type} {f : α → D} {n : Nat} (hf : ∀ x, (f x).depth ≤ n) : ∀ {l : List α}, D.depths (l.map f) ≤ n
  | [] => Nat.zero_le _
  | x :: l => Nat.max_le.mpr ⟨hf x, depths_map hf⟩
theorem rq_eqv (p q : Rat) : D.eqv (rq p) (rq q) = decide (p = q) := by
  have e : D.eqv (rq p) (rq q) = (p.num == q.num && (((p.den : Int) == (q.den : Int)) && true)) := rfl
  rw [e, Bool.eq_iff_iff]
  simp only [Bool.and_eq_true, beq_iff_eq, and_true, decide_eq_true_eq]
  constructor
  · rintro ⟨h1, h2⟩; exact Rat.ext h1 (by omega)
  · rintro rfl; exact ⟨rfl, rfl⟩
end TG
/-! sorted(..) of alike data. -/
namespace TG
open PySem PySem.Spec PyProof.Rows L2
/-- the order of data -/
def leD (a b : D) : Bool := PySem.W.dataLe false D.py a b
/-- sorted -/
def srt (ds : List D) : List D := ds.mergeSort leD
theorem srt_len {ds : List D} : (srt ds).length = ds.length := List.length_mergeSort ds
def Rows (ds : List D) : Prop := PySem.W.AllAlike (ds.map D.py) ∧ PySem.W.Sortable (ds.map D.py)
theorem rows_map {α : Type} {f : α → D} {l : List α} (hal : ∀ x y, PySem.W.alike (f x).py (f y).py = true) (ht : ∀ x, ∃ a r, (f x).py = .tuple (a :: r)) : Rows (l.map f) := by
  refine ⟨fun d hd e he => ?_, .inl fun d hd => ?_⟩
  · rw [List.map_map] at hd he
    obtain ⟨x, _, rfl⟩ := List.mem_map.mp hd
    obtain ⟨y, _, rfl⟩ := List.mem_map.mp he
    exact hal x y
  · rw [List.map_map] at hd
    obtain ⟨x, _, rfl⟩ := List.mem_map.mp hd
    exact ht x
theorem rows_mapI {α : Type} {f : α → D} {l : List α} (hal : ∀ x, ∃ i, f x = .int i) : Rows (l.map f) := by
  refine ⟨fun d hd e he => ?_, .inr fun d hd => ?_⟩
  · rw [List.map_map] at hd he
    obtain ⟨x, _, rfl⟩ := List.mem_map.mp hd
    obtain ⟨y, _, rfl⟩ := List.mem_map.mp he
    obtain ⟨i, hi⟩ := hal x
    obtain ⟨j, hj⟩ := hal y
    show PySem.W.alike (f x).py (f y).py = true
    rw [hi, hj]; rfl
  · rw [List.map_map] at hd
    obtain ⟨x, _, rfl⟩ := List.mem_map.mp hd
    obtain ⟨i, hi⟩ := hal x
    have e : (D.py ∘ f) x = .int i := congrArg D.py hi
    rw [e]
    exact ⟨fun z => (by cases z), fun xs z => (by cases z)⟩
/-- what neither is less of is equal -/
theorem leD_anti {d e : D} (hal : PySem.W.alike d.py e.py = true) (h1 : leD d e = true) (h2 : leD e d = true) : D.eqv d e = true := by
  have k1 : PySem.W.dataLt e.py d.py = false := by
    have : (!PySem.W.dataLt e.py d.py) = true := h1
    simpa using this
  have k2 : PySem.W.dataLt d.py e.py = false := by
    have : (!PySem.W.dataLt d.py e.py) = true := h2
    simpa using this
  have q : PySem.W.keyToks d.py = PySem.W.keyToks e.py := (listOrd PyProof.Rows.itemOrd).total _ _ k2 k1
  cases hq : D.eqv d e with
  | true => rfl
  | false =>
    have t := (PySem.W.toks_eqv d.py e.py hal).2 hq [.inl 0] [.inl 1]
    have z : PyProof.Rows.lexLt PyProof.Rows.itemOrd (PySem.W.keyToks d.py) (PySem.W.keyToks e.py) = false := k2
    rw [z, q, PySem.W.lex_pre] at t
    exact absurd t (by decide)
theorem srt_pairwise (ds : List D) : (srt ds).Pairwise (fun a b => leD a b = true) := PySem.W.sort_pairwise (PySem.W.sortLe_total (listOrd PyProof.Rows.itemOrd) false fun d : D => PySem.W.keyToks d.py) ds
theorem srt_perm {α : Type} {f : α → D} {l m : List α} (h : l.Perm m) (hal : ∀ x y, PySem.W.alike (f x).py (f y).py = true) (inj : ∀ x y, D.eqv (f x) (f y) = true → x = y) : srt (l.map f) = srt (m.map f) := by
  refine List.Perm.eq_of_pairwise (le := fun a b => leD a b = true) (fun a b ha hb h1 h2 => ?_) (srt_pairwise _) (srt_pairwise _) (((List.mergeSort_perm _ _).trans (h.map f)).trans (List.mergeSort_perm _ _).symm)
  obtain ⟨x, _, rfl⟩ := List.mem_map.mp (List.mem_mergeSort.mp ha)
  obtain ⟨y, _, rfl⟩ := List.mem_map.mp (List.mem_mergeSort.mp hb)
  rw [inj x y (leD_anti (hal x y) h1 h2)]
/-- sorted data are the data of something -/
theorem srt_map {α : Type} {f : α → D} (l : List α) : srt (l.map f) = (l.mergeSort fun x y => leD (f x) (f y)).map f := (List.map_mergeSort (r := fun x y => leD (f x) (f y)) (s := leD) (f := f) (l := l) fun _ _ _ _ => rfl).symm
/-- values that stand for data stand for a list's items -/
theorem each_repl {K : PySem.W.Frag} {G : Hp} : ∀ {us : List Value} {ds : List D}, PySem.W.EachIs (fun (u : Value) (d : D) => ∃ x, RelV x u ∧ Rep K G x d) us ds → ∃ xs, Vals xs us ∧ RepL K G xs ds
  | _, _, .nil => ⟨[], .nil, .nil⟩
  | _, _, .cons ⟨x, r, h⟩ t => by
    obtain ⟨xs, r2, h2⟩ := each_repl t
    exact ⟨x :: xs, .cons r r2, .cons h h2⟩
theorem repl_each {K : PySem.W.Frag} {G : Hp} : ∀ {xs : List V} {us : List Value} {ds : List D}, Vals xs us → RepL K G xs ds → PySem.W.EachIs (fun (u : Value) (d : D) => ∃ x, RelV x u ∧ Rep K G x d) us ds
  | _, _, _, .nil, .nil => .nil
  | _, _, _, .cons r t, .cons h k => .cons ⟨_, r, h⟩ (repl_each t k)
theorem repl_reads {X : Cx} {pins : List (Addr × Obj)} {σ : L2.St} {G H : Hp} {s : Shared} (I : Inv X pins σ H s) (e : Ex G H) : ∀ {xs : List V} {us : List Value} {ds : List D}, Vals xs us → RepL X.K G xs ds → D.plains ds = true → PySem.W.EachIs (fun (u : Value) (d : D) => ∃ as, Reads s.heap u d.py as) us ds
  | _, _, [], .nil, .nil, _ => .nil
  | _, _, d :: ds, .cons r t, .cons h k, p => by
    have p' : (D.plain d && D.plains ds) = true := p
    rw [Bool.and_eq_true] at p'
    exact .cons (Dp.reads I _ _ _ (h.dp e p'.1) r) (repl_reads I e t k p'.2)
def rSortedL (K : PySem.W.Frag) (A : Around) : List V → Hp → VK → Prop := fun vs H Q => ∃ (a : Addr) (xs : List V) (ds : List D) (G : Hp), vs = [V.ref a] ∧ SqL K H a xs ∧ Ex G H ∧ RepL K G xs ds ∧ D.plains ds = true ∧ Rows ds ∧ (∀ d ∈ ds, A.units + 2 + d.py.depth < cLine) ∧
  ∀ ys p, RepL K G ys (srt ds) → H p = none → Q (.ref p) (upd H p (.lst ys))
theorem cr_sortedL {X : Cx} : CallR X (.builtin "sorted") (rSortedL X.K X.A) := by
  intro pins s σ H vs us Q I r h
  obtain ⟨a, xs, ds, G, rfl, hs, ex, rl, hp, hr, hu, q⟩ := h
  obtain ⟨its, rv, hl, hz⟩ := I.list hs
  obtain ⟨u, rfl, ru⟩ := L2.vals1 r
  obtain rfl : u = Value.ref a := ru
  have hlen : ds.length ≤ sizeLine := by rw [← rl.length]; exact hz
  refine PySem.W.sorted_data (bs := ds) (enc := D.py) hl.isList (repl_each rv rl) (repl_reads I ex rv rl hp) hr.1 hr.2 hlen hu fun out ho he => ?_
  obtain ⟨ys, h1, h2⟩ := each_repl he
  obtain ⟨n, hn⟩ := sortedAll_at s.heap its out.toArray
  refine ⟨.ref (s.heap.objs.size + 1), upd H (s.heap.objs.size + 1) (.lst ys), I.laid (t' := s.toks) (fun b o e => sortedAll_old e) (Nat.le_succ _) ⟨?_, out, n, h1, hn⟩, rfl, q _ _ h2 (I.hok.fresh (Nat.le_succ _))⟩
  rw [h1.length, ho]; exact hlen
section
variable {X : Cx} {ex : Exs} {ρ : List O} {e : Expr} {ds : List D} {d : D} {pos p : Pos}
/-- sorted(e), e a list -/
theorem eo_sorted {k : Nat} (hr : Room k X.A) (hg : Gl X "sorted") (hm : X.mg "sorted" = none) (ha : EA X ex [e] ρ [.lst ds]) (hp : D.plains ds = true) (hrow : Rows ds) (hd : D.depths ds ≤ 60) (he : starEach [e] X.env = (false, eval e X.env) :: starEach [] X.env := by rfl) (hpl : (backTo pos (starEach [] X.env)).any (·.1) = false := by rfl) : EO X ex (.Call (.Name "sorted" p) [e] [] pos) ρ (fun o => o = .ml (srt ds)) :=
  eo_blt cr_sortedL (fun G H vs Q e r q => by
    obtain ⟨v, rfl, r1⟩ := r.of1
    cases r1 with
    | lst h r2 =>
      refine ⟨_, _, ds, G, rfl, e.l h, e, r2, hp, hrow, fun d hd' => ?_, fun ys p hy hn => ?_⟩
      · have h1 := D.depth_py d
        obtain ⟨i, hi⟩ := List.mem_iff_getElem?.mp hd'
        have h2 := depths_get hi
        have := hr.units
        omega
      · have g2 := Grow.newH (u := .lst ys) e hn
        exact q _ (.ml (srt ds)) G _ g2 ⟨p, ys, rfl, upd_same, e.back hn, hn, hy⟩ rfl) hg hm (by decide +kernel) ha (by decide) (by decide) he hpl
end
section
variable {X : Cx} {ex : Exs} {ρ : List O} {e : Expr} {W : Eds} {pos : Pos}
/-- a, b = e: e a tuple told by a relation -/
theorem ws_unpackP {P : O → Prop} {ts : List Expr} {k : Nat} {pt : Pos} (h : EO X ex e ρ P) (hk : ∀ o, P o → ∃ d ρ1, o = .va d ∧ ATg X (.Tuple ts k pt) d ρ ρ1 ∧ W.nx ρ1) (hs : swapsWithSole [.Tuple ts k pt] e pos.line X.env = pure false := by rfl) (hw : swappedStores [.Tuple ts k pt] e X.env = pure none := by rfl)
    (h1 : (assignEach [.Tuple ts k pt] X.env).map (·.2) = [assign (.Tuple ts k pt) X.env] := by rfl) : WS X ex (.Assign [.Tuple ts k pt] e pos) ρ W := ⟨fun E σ G H S =>
  of_ps (ps_asg sem_pe sem_pg hs hw h1) (tSem_mono (h E σ G H S) fun v H1 ⟨o, G1, g, r, p⟩ => by
    obtain ⟨d, ρ1, rfl, ht, n⟩ := hk o p
    exact tSemG_mono (ht E σ G1 H1 v (S.grow g) r) fun σ' H' ⟨e, S'⟩ => by
      subst e
      exact ⟨ρ1, G1, S', g.g, n⟩)⟩
end
/-! ### lists that grow -/
section
variable {α β γ : Type}
theorem getD_mem {l : List α} {k : Nat} {x : α} (h : k < l.length) : l.getD k x ∈ l := by
  have : l.getD k x = l[k] := by simp [List.getD, h]
  rw [this]; exact List.getElem_mem h
theorem take_getD {l : List α} {k : Nat} (x : α) (h : k < l.length) : l.take (k + 1) = l.take k ++ [l.getD k x] := by
  refine take_snoc ?_
  simp [List.getD, h]
theorem map_getK {f : α → D} {l : List α} {k : Nat} {d : D} (x : α) (h : (l.map f)[k]? = some d) : k < l.length ∧ d = f (l.getD k x) := by
  rw [List.getElem?_map] at h
  by_cases hk : k < l.length
  · rw [List.getElem?_eq_getElem hk] at h
    exact ⟨hk, by rw [← Option.some.inj h]; simp [List.getD, hk]⟩
  · rw [List.getElem?_eq_none (by omega)] at h; cases h
/-- a loop that appends where p holds -/
theorem in_yesM {acc : List β} {l : List α} {p : α → Bool} {f : α → β} {g : β → γ} {k : Nat} {x : α} (h : k < l.length) (hp : p (l.getD k x) = true) : (acc ++ ((l.take (k + 1)).filter p).map f).map g = (acc ++ ((l.take k).filter p).map f).map g ++ [g (f (l.getD k x))] := by
  have e : [l.getD k x].filter p = [l.getD k x] := by rw [List.filter_cons_of_pos hp]; rfl
  rw [take_getD x h, List.filter_append, e]
  simp only [List.map_append, List.map_cons, List.map_nil, List.append_assoc]
theorem in_noM {acc : List β} {l : List α} {p : α → Bool} {f : α → β} {g : β → γ} {k : Nat} {x : α} (h : k < l.length) (hp : p (l.getD k x) = false) : (acc ++ ((l.take (k + 1)).filter p).map f).map g = (acc ++ ((l.take k).filter p).map f).map g := by
  have e : [l.getD k x].filter p = [] := by rw [List.filter_cons_of_neg (by rw [hp]; exact Bool.false_ne_true)]; rfl
  rw [take_getD x h, List.filter_append, e, List.append_nil]
theorem flat_next {l : List α} {f : α → List β} {g : β → γ} {k : Nat} {x : α} (h : k < l.length) : ((l.take (k + 1)).flatMap f).map g = ((l.take k).flatMap f ++ f (l.getD k x)).map g := by
  rw [take_getD x h, List.flatMap_append]; simp
theorem map_next {l : List α} {f : α → γ} {k : Nat} {x : α} (h : k < l.length) : (l.take (k + 1)).map f = (l.take k).map f ++ [f (l.getD k x)] := by
  rw [take_getD x h, List.map_append]; rfl
theorem flat_len {l : List α} {f : α → List β} {n : Nat} (h : ∀ x, (f x).length ≤ n) : (l.flatMap f).length ≤ l.length * n := by
  induction l with
  | nil => simp
  | cons x l ih =>
    rw [List.flatMap_cons, List.length_append, List.length_cons, Nat.succ_mul]
    have := h x
    omega
theorem line_of {n : Nat} (h : n ≤ 100000) : n < sizeLine := Nat.lt_of_le_of_lt h (by decide)
end
end TG
namespace My
open PySem PySem.Spec PyProof.Rows L2 TG
def topS (i : Nat) : Stmt := PySem.Challenge.pw_tilesglued_k18_matrices_that_keep_a_cell.main.body.getD i (.Pass ⟨0, 0, 0, 0⟩)
abbrev s_common_divisor : Stmt := topS 2
abbrev s_fraction : Stmt := topS 3
abbrev s_plus : Stmt := topS 4
abbrev s_times : Stmt := topS 5
abbrev s_divided : Stmt := topS 6
abbrev s_less : Stmt := topS 7
abbrev s_product : Stmt := topS 9
abbrev s_reverse_matrix : Stmt := topS 10
abbrev s_scalar : Stmt := topS 13
abbrev s_whole_vector : Stmt := topS 14
abbrev s_nearest : Stmt := topS 15
abbrev s_reduced_basis : Stmt := topS 16
abbrev s_in_cell : Stmt := topS 17
abbrev s_same_lengths : Stmt := topS 18
abbrev s_keeping : Stmt := topS 19
abbrev s__law_cell : Stmt := topS 21
abbrev s__law_numbers : Stmt := topS 22
abbrev s__law_same : Stmt := topS 23
abbrev s__law_gcd : Stmt := topS 24
abbrev s__law_frac : Stmt := topS 25
abbrev s__law_add : Stmt := topS 26
abbrev s__law_mul : Stmt := topS 27
abbrev s__law_det : Stmt := topS 28
abbrev s__law_product : Stmt := topS 29
abbrev s__law_short_cell : Stmt := topS 30
abbrev s__law_scalar : Stmt := topS 31
abbrev s__law_cell_of : Stmt := topS 32
abbrev s__law_vector : Stmt := topS 33
abbrev s__law_other_cell : Stmt := topS 34
abbrev s__law_small_matrices : Stmt := topS 35
abbrev s__law_keepers : Stmt := topS 36
abbrev s__law_reverse : Stmt := topS 37
abbrev s__law_wide_cell : Stmt := topS 38
abbrev s__law_long_axes : Stmt := topS 39
abbrev s_law : Stmt := topS 40
structure Txt (K : PySem.W.Frag) (mg : Str → Option Value) : Prop where
  d_common_divisor : DefT K mg "common_divisor" s_common_divisor ["a", "b"] []
  d_fraction : DefT K mg "fraction" s_fraction ["n", "d"] [V.int 1]
  d_plus : DefT K mg "plus" s_plus ["f", "g"] []
  d_times : DefT K mg "times" s_times ["f", "g"] []
  d_divided : DefT K mg "divided" s_divided ["f", "g"] []
  d_less : DefT K mg "less" s_less ["f", "g"] []
  d_product : DefT K mg "product" s_product ["first", "second"] []
  d_reverse_matrix : DefT K mg "reverse_matrix" s_reverse_matrix ["matrix"] []
  d_scalar : DefT K mg "scalar" s_scalar ["cell", "one", "two"] []
  d_whole_vector : DefT K mg "whole_vector" s_whole_vector ["vector"] []
  d_nearest : DefT K mg "nearest" s_nearest ["f"] []
  d_reduced_basis : DefT K mg "reduced_basis" s_reduced_basis ["cell"] []
  d_in_cell : DefT K mg "in_cell" s_in_cell ["cell", "f", "g"] []
  d_same_lengths : DefT K mg "same_lengths" s_same_lengths ["cell", "wanted"] []
  d_keeping : DefT K mg "keeping" s_keeping ["cell"] []
  d__law_cell : DefT K mg "_law_cell" s__law_cell ["script", "k"] []
  d__law_numbers : DefT K mg "_law_numbers" s__law_numbers ["cell", "count"] []
  d__law_same : DefT K mg "_law_same" s__law_same ["actual", "due"] []
  d__law_gcd : DefT K mg "_law_gcd" s__law_gcd ["a", "b"] []
  d__law_frac : DefT K mg "_law_frac" s__law_frac ["n", "d"] []
  d__law_add : DefT K mg "_law_add" s__law_add ["f", "g"] []
  d__law_mul : DefT K mg "_law_mul" s__law_mul ["f", "g"] []
  d__law_det : DefT K mg "_law_det" s__law_det ["m"] []
  d__law_product : DefT K mg "_law_product" s__law_product ["m", "n"] []
  d__law_short_cell : DefT K mg "_law_short_cell" s__law_short_cell ["numbers"] []
  d__law_scalar : DefT K mg "_law_scalar" s__law_scalar ["cell", "p", "q"] []
  d__law_cell_of : DefT K mg "_law_cell_of" s__law_cell_of ["cell", "f", "g"] []
  d__law_vector : DefT K mg "_law_vector" s__law_vector ["x", "y"] []
  d__law_other_cell : DefT K mg "_law_other_cell" s__law_other_cell ["cell", "matrix"] []
  d__law_small_matrices : DefT K mg "_law_small_matrices" s__law_small_matrices [] []
  d__law_keepers : DefT K mg "_law_keepers" s__law_keepers ["cell"] []
  d__law_reverse : DefT K mg "_law_reverse" s__law_reverse ["matrix"] []
  d__law_wide_cell : DefT K mg "_law_wide_cell" s__law_wide_cell ["numbers"] []
  d__law_long_axes : DefT K mg "_law_long_axes" s__law_long_axes ["cell", "numbers"] []
  d_law : DefT K mg "law" s_law ["script"] []
  m_abs : mg "abs" = none
  m_bool : mg "bool" = none
  m_int : mg "int" = none
  m_isinstance : mg "isinstance" = none
  m_len : mg "len" = none
  m_list : mg "list" = none
  m_range : mg "range" = none
  m_sorted : mg "sorted" = none
  m_str : mg "str" = none
  m_tuple : mg "tuple" = none
  c_ZERO : ConT K mg "ZERO" (.tup [.int 0, .int 1])
  c_STEPS : ConT K mg "STEPS" (.tup [.tup [.int 1, .int 0], .tup [.int 0, .int 1], .tup [.int 1, .int 1], .tup [.int 1, .int (-1)], .tup [.int (-1), .int 1], .tup [.int (-1), .int 0], .tup [.int 0, .int (-1)], .tup [.int (-1), .int (-1)]])
local macro_rules | `(tactic| walk_at "tg le") => `(tactic| ((repeat (first | exact Le.nil | exact Le.refl _ | refine Le.un ?_ | refine Le.eq ?_)); done))
local macro_rules | `(tactic| walk_at "tg return") => `(tactic| first | assumption | exact hQ)
local macro_rules | `(tactic| walk_at "tg mod") => `(tactic| first | decide | omega)
local macro_rules | `(tactic| walk_at "tg div") => `(tactic| first | exact ⟨by decide, by decide⟩)
local macro_rules | `(tactic| walk_at "tg cmp") => `(tactic| first | rfl | assumption | decide +kernel)
local macro_rules | `(tactic| walk_at "tg cat") => `(tactic| first | exact cat_ok rfl)
local macro_rules | `(tactic| walk_at "tg size") => `(tactic| first | exact len_ok rfl)
local macro_rules | `(tactic| walk_at "tg szc") => `(tactic| first | assumption | (apply Sz.mul <;> walk_at "tg szc") | (apply Sz.add <;> walk_at "tg szc") | (apply Sz.sub <;> walk_at "tg szc") | (apply Sz.neg <;> walk_at "tg szc") | exact sz_num)
local macro_rules | `(tactic| walk_at "tg sz") => `(tactic| first | assumption | (apply Sz.mono; (walk_at "tg szc"); (first | decide | omega)))
local macro_rules | `(tactic| walk_at "tg rzc") => `(tactic| first | assumption | (apply Rz.mul <;> walk_at "tg rzc") | (apply Rz.add <;> walk_at "tg rzc") | (apply Rz.sub <;> walk_at "tg rzc") | (apply Rz.neg <;> walk_at "tg rzc") | exact rz0 | (apply rz_int; (walk_at "tg szc"); (first | decide | omega)))
local macro_rules | `(tactic| walk_at "tg rz") => `(tactic| first | assumption | (apply Rz.mono; (walk_at "tg rzc"); (first | decide | omega)))
local macro_rules | `(tactic| walk_at "tg pre") => `(tactic| ((repeat' (refine And.intro ?_ ?_)) <;> first | trivial | assumption | walk_at "tg sz" | walk_at "tg rz" | omega | decide))
local macro_rules | `(tactic| walk_at "tg mul") => `(tactic| (apply Sz.mulW <;> first | walk_at "tg szc" | decide | omega))
local macro_rules | `(tactic| walk_at "tg plains") => `(tactic| first | rfl | (simp only [plains_map]; done) | assumption)
local macro_rules | `(tactic| walk_at "tg depths") => `(tactic| first | (exact Nat.le_of_ble_eq_true rfl) | (refine Nat.le_trans (depths_map ?_) (Nat.le_of_ble_eq_true rfl); intro _; exact Nat.le_of_ble_eq_true rfl) | assumption)
local macro_rules | `(tactic| walk_at "tg tyn") => `(tactic| first | (simp [D.tyN]; done) | assumption)

abbrev mt (a b c d : Int) : D := .tup [.int a, .int b, .int c, .int d]
abbrev mv (a b c d : Int) (u v : Rat) : D := .tup [.int a, .int b, .int c, .int d, rq u, rq v]
abbrev pt (p q : Rat) : D := .tup [rq p, rq q]
abbrev Mz (k : Nat) (a b c d : Int) : Prop := Sz k a ∧ Sz k b ∧ Sz k c ∧ Sz k d
theorem Mz.mono {j k : Nat} {a b c d : Int} (h : Mz j a b c d) (l : j ≤ k) : Mz k a b c d := ⟨h.1.mono l, h.2.1.mono l, h.2.2.1.mono l, h.2.2.2.mono l⟩
theorem cut4 {a b c d : D} {r : List D} : cutD (a :: b :: c :: d :: r) none (some 4) = [a, b, c, d] := cut_lo 4 rfl (by simp)
theorem Rz.led {m n : Nat} {a b : Int} {p q : Rat} (ha : Sz m a) (hb : Sz m b) (hp : Rz n p) (hq : Rz n q) (hm : 0 < m := by decide) : Rz (m + n + (m + n) + 1) (a * p + b * q) := ((rz_int ha hm).mul hp).add ((rz_int hb hm).mul hq)
theorem mt_det {a b c d : Int} : mt a b c d = .tup (.int a :: .int b :: .int c :: .int d :: []) := rfl

abbrev cl (a b c : Rat) : D := .tup [rq a, rq b, rq c]
/-- the scalar product in a cell -/
abbrev scl (a b c p q r s : Rat) : Rat := a * (p * r) + (b * (p * s + q * r) + c * (q * s))
theorem scl_sz {a b c p q r s : Rat} {k m n : Nat} (ha : Rz k a) (hb : Rz k b) (hc : Rz k c) (hp : Rz m p) (hq : Rz m q) (hr : Rz n r) (hs : Rz n s) : Rz (k + k + k + m + m + m + m + n + n + n + n + 3) (scl a b c p q r s) :=
  (((ha.mul (hp.mul hr)).add ((hb.mul ((hp.mul hs).add (hq.mul hr))).add (hc.mul (hq.mul hs))))).mono (by omega)
/-- the form a x x + 2 b x y + c y y -/
def qf (a b c : Rat) (x y : Int) : Rat := a * (x * x) + (b * (x * y + y * x) + c * (y * y))
theorem sq_pos {y : Int} (h : y ≠ 0) : 1 ≤ y * y := by
  have : 0 < y * y := by
    rcases Int.lt_or_gt_of_ne h with z | z
    · exact Int.mul_pos_of_neg_of_neg z z
    · exact Int.mul_pos z z
  omega
theorem sq_nn (y : Int) : 0 ≤ y * y := by
  by_cases h : y = 0
  · subst h; decide
  · have := sq_pos h; omega
theorem eis {x y : Int} (h : y ≠ 0) : 1 ≤ x * x + x * y + y * y := by
  have h1 := sq_pos h
  have h2 := sq_nn (2 * x + y)
  have e : 4 * (x * x + x * y + y * y) = (2 * x + y) * (2 * x + y) + 3 * (y * y) := by grind
  omega
theorem cast_le {x y : Int} (h : x ≤ y) : (x : Rat) ≤ (y : Rat) := Rat.intCast_le_intCast.mpr h
theorem qf_low2 {a b c : Rat} {x y : Int} (h0 : 0 ≤ b) (h1 : 2 * b ≤ a) (h2 : a ≤ c) (hy : y ≠ 0) : c ≤ qf a b c x y := by
  have ha : 0 ≤ a := by grind
  have hy1 : (1 : Rat) ≤ (y : Rat) * y := by have := cast_le (sq_pos hy); rwa [Rat.intCast_mul] at this
  have hx1 : (0 : Rat) ≤ (x : Rat) * x := by have := cast_le (sq_nn x); rwa [Rat.intCast_mul] at this
  have he : (1 : Rat) ≤ (x : Rat) * x + x * y + y * y := by
    have := cast_le (eis (x := x) hy)
    rwa [Rat.intCast_add, Rat.intCast_add, Rat.intCast_mul, Rat.intCast_mul, Rat.intCast_mul] at this
  have p1 : 0 ≤ a * ((x : Rat) * x) := Rat.mul_nonneg ha hx1
  have p2 : 0 ≤ (c - a) * ((y : Rat) * y - 1) := Rat.mul_nonneg (by grind) (by grind)
  have p3 : 0 ≤ a * ((y : Rat) * y - 1) := Rat.mul_nonneg ha (by grind)
  have p4 : 0 ≤ a * ((x : Rat) * x + x * y + y * y - 1) := Rat.mul_nonneg ha (by grind)
  unfold qf
  by_cases hs : 0 ≤ (x : Rat) * y
  · have p5 : 0 ≤ b * ((x : Rat) * y) := Rat.mul_nonneg h0 hs
    grind
  · have p5 : 0 ≤ (a - 2 * b) * (-((x : Rat) * y)) := Rat.mul_nonneg (by grind) (by grind)
    grind
theorem qf_low1 {a b c : Rat} {x y : Int} (h0 : 0 ≤ b) (h1 : 2 * b ≤ a) (h2 : a ≤ c) (hn : x ≠ 0 ∨ y ≠ 0) : a ≤ qf a b c x y := by
  by_cases hy : y = 0
  · have hx : x ≠ 0 := by
      rcases hn with h | h
      · exact h
      · exact absurd hy h
    have hx1 : (1 : Rat) ≤ (x : Rat) * x := by have := cast_le (sq_pos hx); rwa [Rat.intCast_mul] at this
    have ha : 0 ≤ a := by grind
    have p1 : 0 ≤ a * ((x : Rat) * x - 1) := Rat.mul_nonneg ha (by grind)
    subst hy
    unfold qf
    have : ((0 : Int) : Rat) = 0 := rfl
    rw [this]
    grind
  · have := qf_low2 (x := x) h0 h1 h2 hy
    grind
/-- reduced forms are unique -/
theorem red_unique {a b c A B C : Rat} {x y z w : Int} (h0 : 0 ≤ b) (h1 : 2 * b ≤ a) (h2 : a ≤ c) (H0 : 0 ≤ B) (H1 : 2 * B ≤ A) (H2 : A ≤ C)
    (hd : x * w - y * z = 1 ∨ x * w - y * z = -1) (hA : A = qf a b c x y) (hC : C = qf a b c z w) (hB : B = a * (x * z) + (b * (x * w + y * z) + c * (y * w))) : A = a ∧ B = b ∧ C = c := by
  have hxy : x ≠ 0 ∨ y ≠ 0 := by
    by_cases hx : x = 0
    · by_cases hy : y = 0
      · subst hx hy; simp at hd
      · exact .inr hy
    · exact .inl hx
  have hwy : w ≠ 0 ∨ -y ≠ 0 := by
    by_cases hx : w = 0
    · by_cases hy : y = 0
      · subst hx hy; simp at hd
      · exact .inr (by omega)
    · exact .inl hx
  have hr : ((x : Rat) * w - y * z) * ((x : Rat) * w - y * z) = 1 := by
    have : (x : Rat) * w - y * z = ((x * w - y * z : Int) : Rat) := by rw [Rat.intCast_sub, Rat.intCast_mul, Rat.intCast_mul]
    rw [this]
    rcases hd with h | h <;> rw [h] <;> decide +kernel
  have inv1 : a = qf A B C w (-y) := by
    unfold qf at hA hC ⊢
    rw [hA, hB, hC, Rat.intCast_neg]
    have : a * (((x : Rat) * w - y * z) * ((x : Rat) * w - y * z)) = a := by rw [hr, Rat.mul_one]
    grind
  have inv2 : c = qf A B C (-z) x := by
    unfold qf at hA hC ⊢
    rw [hA, hB, hC, Rat.intCast_neg]
    have : c * (((x : Rat) * w - y * z) * ((x : Rat) * w - y * z)) = c := by rw [hr, Rat.mul_one]
    grind
  have k1 : a ≤ A := by rw [hA]; exact qf_low1 h0 h1 h2 hxy
  have k2 : A ≤ a := by rw [inv1]; exact qf_low1 H0 H1 H2 hwy
  have k3 : c ≤ C := by
    by_cases hw : w = 0
    · have hy : y ≠ 0 := by
        rintro rfl; subst hw; simp at hd
      have := qf_low2 (x := x) h0 h1 h2 hy
      rw [← hA] at this
      grind
    · rw [hC]; exact qf_low2 h0 h1 h2 hw
  have k4 : C ≤ c := by
    by_cases hx : x = 0
    · have hy : -y ≠ 0 := by
        intro q
        have : y = 0 := by omega
        subst this; subst hx; simp at hd
      have := qf_low2 (x := w) H0 H1 H2 hy
      rw [← inv1] at this
      grind
    · rw [inv2]; exact qf_low2 H0 H1 H2 hx
  have eA : A = a := by grind
  have eC : C = c := by grind
  refine ⟨eA, ?_, eC⟩
  have hdet : A * C - B * B = a * c - b * b := by
    have : (a * c - b * b) * (((x : Rat) * w - y * z) * ((x : Rat) * w - y * z)) = a * c - b * b := by rw [hr, Rat.mul_one]
    unfold qf at hA hC
    rw [hA, hB, hC]
    grind
  rw [eA, eC] at hdet
  have : (B - b) * (B + b) = 0 := by grind
  rcases Rat.mul_eq_zero.mp this with h | h
  · grind
  · grind

/-- two vectors' product -/
def bf (a b c : Rat) (x y z w : Int) : Rat := a * (x * z) + (b * (x * w + y * z) + c * (y * w))
theorem bf_self {a b c : Rat} {x y : Int} : bf a b c x y x y = qf a b c x y := rfl
def nr (q : Rat) : Int := (2 * q.num + q.den).fdiv (2 * q.den)
theorem nr_spec (q : Rat) : 2 * (nr q : Rat) - 1 ≤ 2 * q ∧ 2 * q ≤ 2 * (nr q : Rat) + 1 := by
  have hd := rq_pos q
  have e1 : nr q = (2 * q.num + q.den) / (2 * q.den) := Int.fdiv_eq_ediv_of_nonneg _ (by omega)
  have h1 := Int.mul_ediv_add_emod (2 * q.num + q.den) (2 * q.den)
  have h2 := Int.emod_nonneg (2 * q.num + q.den) (show (2 * (q.den : Int)) ≠ 0 by omega)
  have h3 := Int.emod_lt_of_pos (2 * q.num + q.den) (show 0 < 2 * (q.den : Int) by omega)
  rw [← e1] at h1
  have l1 : 2 * (q.den : Int) * nr q ≤ 2 * q.num + q.den := by omega
  have l2 : 2 * q.num + q.den ≤ 2 * (q.den : Int) * nr q + 2 * q.den := by omega
  have c1 := cast_le l1
  have c2 := cast_le l2
  simp only [Rat.intCast_add, Rat.intCast_mul] at c1 c2
  rw [@rat_num q] at c1 c2
  have h20 : ((2 : Int) : Rat) = 2 := rfl
  rw [h20] at c1 c2
  have hp : (0 : Rat) < ((q.den : Int) : Rat) := by have := Rat.intCast_lt_intCast.mpr hd; exact this
  generalize ((q.den : Int) : Rat) = d at c1 c2 hp
  generalize (nr q : Rat) = k at c1 c2
  constructor
  · by_cases h : 2 * k - 1 ≤ 2 * q
    · exact h
    · have := Rat.mul_pos (a := 2 * k - 1 - 2 * q) (b := d) (by grind) hp
      grind
  · by_cases h : 2 * q ≤ 2 * k + 1
    · exact h
    · have := Rat.mul_pos (a := 2 * q - (2 * k + 1)) (b := d) (by grind) hp
      grind
theorem cast_lt {x y : Int} (h : x < y) : (x : Rat) < (y : Rat) := Rat.intCast_lt_intCast.mpr h
/-- a step: g less a multiple of f -/
theorem step_small {a b c : Rat} {x y z w k : Int} (hA : 0 < qf a b c x y) (hk : k = nr (bf a b c x y z w / qf a b c x y)) :
    -(qf a b c x y) ≤ 2 * bf a b c x y (z - k * x) (w - k * y) ∧ 2 * bf a b c x y (z - k * x) (w - k * y) ≤ qf a b c x y ∧ qf a b c (z - k * x) (w - k * y) ≤ qf a b c z w := by
  obtain ⟨h1, h2⟩ := nr_spec (bf a b c x y z w / qf a b c x y)
  rw [← hk] at h1 h2
  have hne : qf a b c x y ≠ 0 := by grind
  have hq : bf a b c x y z w / qf a b c x y * qf a b c x y = bf a b c x y z w := Rat.div_mul_cancel hne
  have eB : bf a b c x y (z - k * x) (w - k * y) = bf a b c x y z w - k * qf a b c x y := by
    unfold bf qf
    simp only [Rat.intCast_sub, Rat.intCast_mul]
    grind
  have eN : qf a b c (z - k * x) (w - k * y) = qf a b c z w - 2 * k * bf a b c x y z w + k * k * qf a b c x y := by
    unfold bf qf
    simp only [Rat.intCast_sub, Rat.intCast_mul]
    grind
  rw [eB, eN]
  generalize bf a b c x y z w / qf a b c x y = q at h1 h2 hq
  generalize bf a b c x y z w = B at hq
  generalize qf a b c x y = A at hA hq
  have p1 := Rat.mul_nonneg (a := 2 * q - (2 * (k : Rat) - 1)) (b := A) (by grind) (by grind)
  have p2 := Rat.mul_nonneg (a := 2 * (k : Rat) + 1 - 2 * q) (b := A) (by grind) (by grind)
  refine ⟨by grind, by grind, ?_⟩
  have hk3 : 0 ≤ (k : Rat) * (2 * q - k) := by
    rcases Int.lt_trichotomy k 0 with h | h | h
    · have h' : (k : Rat) ≤ -1 := by have := cast_le (show k ≤ -1 by omega); exact this
      have := Rat.mul_nonneg (a := -(k : Rat)) (b := -(2 * q - k)) (by grind) (by grind)
      grind
    · subst h
      have : ((0 : Int) : Rat) = 0 := rfl
      rw [this]; grind
    · have h' : (1 : Rat) ≤ (k : Rat) := by have := cast_le (show 1 ≤ k by omega); exact this
      exact Rat.mul_nonneg (by grind) (by grind)
  have p3 := Rat.mul_nonneg hk3 (Rat.le_of_lt hA)
  clear eB eN hk hne p1 p2 h1 h2 hk3
  subst hq
  generalize qf a b c z w = N
  generalize (k : Rat) = κ at p3
  grind
/-- the form in integers -/
structure Int3 (a b c : Rat) (D a' b' c' : Int) : Prop where
  pos : 0 < D
  ea : a * D = a'
  eb : b * D = b'
  ec : c * D = c'
theorem int3_mk {k : Nat} {a b c : Rat} (ha : Rz k a) (hb : Rz k b) (hc : Rz k c) : ∃ D a' b' c' : Int, Int3 a b c D a' b' c' ∧ Sz (k + k + k) D ∧ Sz (k + k + k) a' ∧ Sz (k + k + k) b' ∧ Sz (k + k + k) c' := by
  refine ⟨a.den * b.den * c.den, a.num * b.den * c.den, a.den * b.num * c.den, a.den * b.den * c.num, ⟨Int.mul_pos (Int.mul_pos (rq_pos a) (rq_pos b)) (rq_pos c), ?_, ?_, ?_⟩, (ha.den.mul hb.den).mul hc.den, (ha.num.mul hb.den).mul hc.den, (ha.den.mul hb.num).mul hc.den, (ha.den.mul hb.den).mul hc.num⟩
  · simp only [Rat.intCast_mul]; rw [@rat_num a]; grind
  · simp only [Rat.intCast_mul]; rw [@rat_num b]; grind
  · simp only [Rat.intCast_mul]; rw [@rat_num c]; grind
def qi (a b c : Int) (x y : Int) : Int := a * (x * x) + (b * (x * y + y * x) + c * (y * y))
theorem qi_cast {a b c : Rat} {D a' b' c' : Int} (I : Int3 a b c D a' b' c') (x y : Int) : (qi a' b' c' x y : Rat) = qf a b c x y * D := by
  unfold qi qf
  simp only [Rat.intCast_add, Rat.intCast_mul]
  rw [← I.ea, ← I.eb, ← I.ec]
  grind
theorem lt_cast {x y : Int} (h : (x : Rat) < (y : Rat)) : x < y := Rat.intCast_lt_intCast.mp h
theorem le_cast {x y : Int} (h : (x : Rat) ≤ (y : Rat)) : x ≤ y := Rat.intCast_le_intCast.mp h
theorem Int3.dpos {a b c : Rat} {D a' b' c' : Int} (I : Int3 a b c D a' b' c') : (0 : Rat) < (D : Rat) := cast_lt I.pos
theorem qi_lt {a b c : Rat} {D a' b' c' : Int} (I : Int3 a b c D a' b' c') {x y z w : Int} (h : qf a b c x y < qf a b c z w) : qi a' b' c' x y < qi a' b' c' z w := by
  refine lt_cast ?_
  rw [qi_cast I, qi_cast I]
  have := Rat.mul_pos (a := qf a b c z w - qf a b c x y) (by grind) I.dpos
  grind
theorem qi_nn {a b c : Rat} {D a' b' c' : Int} (I : Int3 a b c D a' b' c') {x y : Int} (h : 0 < qf a b c x y) : 0 < qi a' b' c' x y := by
  refine lt_cast ?_
  rw [qi_cast I]
  exact Rat.mul_pos h I.dpos
theorem sq_sz {k : Nat} {x : Int} (h : x * x < 2 ^ (k + k)) : Sz k x := by
  unfold Sz
  by_cases q : x.natAbs < 2 ^ k
  · exact q
  · exfalso
    have h1 : 2 ^ k * 2 ^ k ≤ x.natAbs * x.natAbs := Nat.mul_le_mul (Nat.not_lt.mp q) (Nat.not_lt.mp q)
    rw [← Nat.pow_add] at h1
    have h2 : ((x.natAbs * x.natAbs : Nat) : Int) = x * x := by
      rw [Int.natCast_mul]
      rcases Int.natAbs_eq x with e | e
      · rw [← e]
      · have : (x.natAbs : Int) = -x := by omega
        rw [this]; grind
    have h3 : ((2 ^ (k + k) : Nat) : Int) = (2 : Int) ^ (k + k) := by simp
    omega
theorem sz_lt {k : Nat} {x : Int} (h : Sz k x) : x < 2 ^ k := by
  unfold Sz at h
  have : ((2 ^ k : Nat) : Int) = (2 : Int) ^ k := by simp
  omega
/-- short vectors are small -/
theorem qf_small {k : Nat} {a b c : Rat} {x y : Int} (ha : Rz k a) (hb : Rz k b) (hc : Rz k c) (pa : 0 < a) (hd : 0 < a * c - b * b) (h : qf a b c x y ≤ a + c) : Sz (3 * k + 1) x ∧ Sz (3 * k + 1) y := by
  obtain ⟨D, a', b', c', I, sD, sa, sb, sc⟩ := int3_mk ha hb hc
  have pD := I.dpos
  have pc : 0 < c := by
    by_cases z : 0 < c
    · exact z
    · have h1 := Rat.mul_nonneg (a := a) (b := -c) (by grind) (by grind)
      have h2 : 0 ≤ b * b := by
        by_cases q : 0 ≤ b
        · exact Rat.mul_nonneg q q
        · have := Rat.mul_nonneg (a := -b) (b := -b) (by grind) (by grind)
          grind
      grind
  have pa' : 0 < a' := lt_cast (by rw [← I.ea]; exact Rat.mul_pos pa pD)
  have pc' : 0 < c' := lt_cast (by rw [← I.ec]; exact Rat.mul_pos pc pD)
  have pd' : 1 ≤ a' * c' - b' * b' := by
    have : 0 < a' * c' - b' * b' := by
      refine lt_cast ?_
      simp only [Rat.intCast_sub, Rat.intCast_mul]
      rw [← I.ea, ← I.eb, ← I.ec]
      have := Rat.mul_pos (Rat.mul_pos hd pD) pD
      grind
    omega
  have hq : qi a' b' c' x y ≤ a' + c' := by
    refine le_cast ?_
    rw [qi_cast I, Rat.intCast_add, ← I.ea, ← I.ec]
    have := Rat.mul_nonneg (a := a + c - qf a b c x y) (b := (D : Rat)) (by grind) (Rat.le_of_lt pD)
    grind
  have e1 : a' * qi a' b' c' x y = (a' * x + b' * y) * (a' * x + b' * y) + (a' * c' - b' * b') * (y * y) := by unfold qi; grind
  have e2 : c' * qi a' b' c' x y = (c' * y + b' * x) * (c' * y + b' * x) + (a' * c' - b' * b') * (x * x) := by unfold qi; grind
  have y1 : y * y ≤ (a' * c' - b' * b') * (y * y) := by
    have := Int.mul_le_mul_of_nonneg_right pd' (sq_nn y)
    omega
  have x1 : x * x ≤ (a' * c' - b' * b') * (x * x) := by
    have := Int.mul_le_mul_of_nonneg_right pd' (sq_nn x)
    omega
  have s1 := sq_nn (a' * x + b' * y)
  have s2 := sq_nn (c' * y + b' * x)
  have u1 : a' * qi a' b' c' x y ≤ a' * (a' + c') := Int.mul_le_mul_of_nonneg_left hq (by omega)
  have u2 : c' * qi a' b' c' x y ≤ c' * (a' + c') := Int.mul_le_mul_of_nonneg_left hq (by omega)
  have z1 := sz_lt ((sa.mul (sa.add sc)).mono (show k + k + k + (max (k + k + k) (k + k + k) + 1) ≤ (3 * k + 1) + (3 * k + 1) by omega))
  have z2 := sz_lt ((sc.mul (sa.add sc)).mono (show k + k + k + (max (k + k + k) (k + k + k) + 1) ≤ (3 * k + 1) + (3 * k + 1) by omega))
  exact ⟨sq_sz (by omega), sq_sz (by omega)⟩
theorem rat_divided {p q : Rat} (h : q ≠ 0) : Rat.divInt (p.num * q.den) (p.den * q.num) = p / q := by
  have hq : q.num ≠ 0 := fun z => h (Rat.num_eq_zero.mp z)
  refine rat_eq_div (mul_ne (rq_ne p) hq) ?_
  rw [Rat.intCast_mul, Rat.intCast_mul, @rat_num p, @rat_num q]
  have := Rat.div_mul_cancel (a := p) h
  generalize p / q = t at this
  grind

theorem rat_one {x : Int} : Rat.divInt x 1 = (x : Rat) := rat_eq_div (by decide) (by
  show (x : Rat) = x * ((1 : Int) : Rat)
  rw [Rat.intCast_one, Rat.mul_one])
theorem rz_divq {m n : Nat} {p q : Rat} (h : Rz m p) (k : Rz n q) (hq : q ≠ 0) : Rz (m + n) (p / q) := by
  rw [← rat_divided hq]
  exact rz_divInt (mul_ne (rq_ne p) fun z => hq (Rat.num_eq_zero.mp z)) (h.num.mul k.den) ((h.den.mul k.num).mono (by omega))
theorem nr_sz {m : Nat} {q : Rat} (h : Rz m q) : Sz (m + 3) (nr q) := by
  have hd := rq_pos q
  have e1 : nr q = (2 * q.num + q.den) / (2 * q.den) := Int.fdiv_eq_ediv_of_nonneg _ (by omega)
  rw [e1]
  have h1 : Sz (m + 3) (2 * q.num + q.den) := ((((sz_lit rfl : Sz 2 2).mul h.num)).add h.den).mono (by omega)
  exact h1.le (Int.natAbs_ediv_le_natAbs _ _)
theorem qf_pos {a b c : Rat} {x y : Int} (ha : 0 < a) (hd : 0 < a * c - b * b) (h : x ≠ 0 ∨ y ≠ 0) : 0 < qf a b c x y := by
  have e : a * qf a b c x y = (a * x + b * y) * (a * x + b * y) + (a * c - b * b) * (y * y) := by unfold qf; grind
  have sq : ∀ t : Rat, 0 ≤ t * t := fun t => by
    by_cases q : 0 ≤ t
    · exact Rat.mul_nonneg q q
    · have := Rat.mul_nonneg (a := -t) (b := -t) (by grind) (by grind)
      grind
  have hpos : 0 < a * qf a b c x y := by
    rw [e]
    by_cases hy : y = 0
    · have hx : x ≠ 0 := by
        rcases h with h | h
        · exact h
        · exact absurd hy h
      subst hy
      have hx1 : (1 : Rat) ≤ (x : Rat) * x := by have := cast_le (sq_pos hx); rwa [Rat.intCast_mul] at this
      have p1 := Rat.mul_pos ha ha
      have p2 := Rat.mul_nonneg (Rat.le_of_lt p1) (show 0 ≤ (x : Rat) * x - 1 by grind)
      have : ((0 : Int) : Rat) = 0 := rfl
      rw [this]
      grind
    · have hy1 : (1 : Rat) ≤ (y : Rat) * y := by have := cast_le (sq_pos hy); rwa [Rat.intCast_mul] at this
      have p1 := sq (a * x + b * y)
      have p2 := Rat.mul_nonneg (Rat.le_of_lt hd) (show 0 ≤ (y : Rat) * y - 1 by grind)
      grind
  by_cases z : 0 < qf a b c x y
  · exact z
  · have := Rat.mul_nonneg (a := a) (b := -(qf a b c x y)) (by grind) (by grind)
    grind
theorem det_nz {x y z w : Int} (h : x * w - y * z = 1 ∨ x * w - y * z = -1) : x ≠ 0 ∨ y ≠ 0 := by
  by_cases hx : x = 0
  · by_cases hy : y = 0
    · subst hx hy; simp at h
    · exact .inr hy
  · exact .inl hx
theorem qf_10 {a b c : Rat} : qf a b c 1 0 = a := by
  unfold qf
  have h1 : ((1 : Int) : Rat) = 1 := rfl
  have h0 : ((0 : Int) : Rat) = 0 := rfl
  rw [h1, h0]; grind
theorem qf_01 {a b c : Rat} : qf a b c 0 1 = c := by
  unfold qf
  have h1 : ((1 : Int) : Rat) = 1 := rfl
  have h0 : ((0 : Int) : Rat) = 0 := rfl
  rw [h1, h0]; grind
theorem map_getK {α : Type} {f : α → D} {l : List α} {k : Nat} {d : D} (x : α) (h : (l.map f)[k]? = some d) : k < l.length ∧ d = f (l.getD k x) := by
  rw [List.getElem?_map] at h
  by_cases hk : k < l.length
  · rw [List.getElem?_eq_getElem hk] at h
    exact ⟨hk, by rw [← Option.some.inj h]; simp [List.getD, hk]⟩
  · rw [List.getElem?_eq_none (by omega)] at h; cases h
abbrev vec (x y : Int) : D := .tup [.int x, .int y]
theorem bf_sz {k n : Nat} {a b c : Rat} {x y z w : Int} (ha : Rz k a) (hb : Rz k b) (hc : Rz k c) (hx : Sz n x) (hy : Sz n y) (hz : Sz n z) (hw : Sz n w) (hn : 0 < n := by decide) : Rz (k + k + k + n + n + n + n + n + n + n + n + 3) (bf a b c x y z w) :=
  scl_sz ha hb hc (rz_int hx hn) (rz_int hy hn) (rz_int hz hn) (rz_int hw hn)

structure Mq where
  a : Int
  b : Int
  c : Int
  d : Int
  deriving DecidableEq

/-- first m, then n -/
def tn (m n : Mq) : Mq := ⟨n.a * m.a + n.b * m.c, n.a * m.b + n.b * m.d, n.c * m.a + n.d * m.c, n.c * m.b + n.d * m.d⟩
def dt (m : Mq) : Int := m.a * m.d - m.b * m.c
def rv (m : Mq) : Mq := ⟨dt m * m.d, -dt m * m.b, -dt m * m.c, dt m * m.a⟩
def Un (m : Mq) : Prop := dt m = 1 ∨ dt m = -1
instance (m : Mq) : Decidable (Un m) := inferInstanceAs (Decidable (_ ∨ _))
def cj (N m : Mq) : Mq := tn (tn (rv N) m) N
def oneq : Mq := ⟨1, 0, 0, 1⟩
theorem mq_e {m n : Mq} (h1 : m.a = n.a) (h2 : m.b = n.b) (h3 : m.c = n.c) (h4 : m.d = n.d) : m = n := by
  cases m; cases n; simp only at h1 h2 h3 h4; subst h1 h2 h3 h4; rfl
theorem tn_assoc (m n k : Mq) : tn (tn m n) k = tn m (tn n k) := by
  apply mq_e <;> (simp only [tn]; grind)
theorem tn_one (m : Mq) : tn m oneq = m := by apply mq_e <;> simp [tn, oneq]
theorem one_tn (m : Mq) : tn oneq m = m := by apply mq_e <;> simp [tn, oneq]
theorem un_sq {m : Mq} (h : Un m) : dt m * dt m = 1 := by rcases h with h | h <;> rw [h] <;> rfl
theorem tn_rv {m : Mq} (h : Un m) : tn m (rv m) = oneq := by
  have e := un_sq h
  unfold dt at e
  apply mq_e <;> (simp only [tn, rv, oneq, dt]; grind)
theorem rv_tn {m : Mq} (h : Un m) : tn (rv m) m = oneq := by
  have e := un_sq h
  unfold dt at e
  apply mq_e <;> (simp only [tn, rv, oneq, dt]; grind)
theorem dt_tn (m n : Mq) : dt (tn m n) = dt m * dt n := by simp only [dt, tn]; grind
theorem dt_rv {m : Mq} (h : Un m) : dt (rv m) = dt m := by
  have e := un_sq h
  have : dt (rv m) = dt m * dt m * dt m := by simp only [dt, rv]; grind
  rw [this, e, Int.one_mul]
theorem un_tn {m n : Mq} (h : Un m) (k : Un n) : Un (tn m n) := by
  unfold Un; rw [dt_tn]
  rcases h with h | h <;> rcases k with k | k <;> rw [h, k]
  · exact .inl rfl
  · exact .inr rfl
  · exact .inr rfl
  · exact .inl rfl
theorem un_rv {m : Mq} (h : Un m) : Un (rv m) := by have := dt_rv h; unfold Un at *; rw [this]; exact h
theorem rv_rv {m : Mq} (h : Un m) : rv (rv m) = m := by
  have e := un_sq h
  have e2 := dt_rv h
  apply mq_e <;> (simp only [rv, dt] at *; grind)
theorem rv_of {m n : Mq} (h : Un m) (e : tn m n = oneq) : n = rv m := by
  have := congrArg (tn (rv m)) e
  rw [← tn_assoc, rv_tn h, one_tn, tn_one] at this
  exact this
theorem rv_tn2 {m n : Mq} (h : Un m) (k : Un n) : rv (tn m n) = tn (rv n) (rv m) := by
  refine (rv_of (un_tn h k) ?_).symm
  rw [tn_assoc, ← tn_assoc n, tn_rv k, one_tn, tn_rv h]
theorem cj_back {N m : Mq} (h : Un N) : cj (rv N) (cj N m) = m := by
  unfold cj
  rw [rv_rv h, ← tn_assoc N, ← tn_assoc N, tn_rv h, one_tn, tn_assoc, tn_rv h, tn_one]
theorem cj_inj {N m n : Mq} (h : Un N) (e : cj N m = cj N n) : m = n := by
  rw [← cj_back (m := m) h, e, cj_back h]
theorem cj_tn {P N m : Mq} (h : Un P) (k : Un N) : cj (tn P N) m = cj N (cj P m) := by
  unfold cj
  rw [rv_tn2 h k]
  simp only [tn_assoc]
theorem un_cj {N m : Mq} (h : Un N) (k : Un m) : Un (cj N m) := un_tn (un_tn (un_rv h) k) h

/-- m keeps the form -/
structure Aut (a b c : Rat) (m : Mq) : Prop where
  f : qf a b c m.a m.c = a
  h : bf a b c m.a m.c m.b m.d = b
  g : qf a b c m.b m.d = c
theorem comp_bf {a b c : Rat} {m i n j x y z w : Int} : bf (qf a b c m i) (bf a b c m i n j) (qf a b c n j) x y z w = bf a b c (m * x + n * y) (i * x + j * y) (m * z + n * w) (i * z + j * w) := by
  unfold bf qf
  simp only [Rat.intCast_add, Rat.intCast_mul]
  grind
theorem comp_qf {a b c : Rat} {m i n j x y : Int} : qf (qf a b c m i) (bf a b c m i n j) (qf a b c n j) x y = qf a b c (m * x + n * y) (i * x + j * y) := comp_bf
section
variable {a b c : Rat} {m n P : Mq}
theorem Aut.bf (h : Aut a b c m) (x y z w : Int) : bf a b c (m.a * x + m.b * y) (m.c * x + m.d * y) (m.a * z + m.b * w) (m.c * z + m.d * w) = My.bf a b c x y z w := by
  rw [← comp_bf, h.f, h.h, h.g]
theorem Aut.qf (h : Aut a b c m) (x y : Int) : qf a b c (m.a * x + m.b * y) (m.c * x + m.d * y) = My.qf a b c x y := h.bf x y x y
theorem Aut.tn (h : Aut a b c m) (k : Aut a b c n) : Aut a b c (tn m n) := by
  refine ⟨?_, ?_, ?_⟩
  · exact (k.qf _ _).trans h.f
  · exact (k.bf _ _ _ _).trans h.h
  · exact (k.qf _ _).trans h.g
theorem aut_un (hd : 0 < a * c - b * b) (h : Aut a b c m) : Un m := by
  have e : My.qf a b c m.a m.c * My.qf a b c m.b m.d - My.bf a b c m.a m.c m.b m.d * My.bf a b c m.a m.c m.b m.d = (a * c - b * b) * (((m.a : Rat) * m.d - m.b * m.c) * ((m.a : Rat) * m.d - m.b * m.c)) := by
    unfold My.bf My.qf; grind
  rw [h.f, h.h, h.g] at e
  have e2 : ((m.a : Rat) * m.d - m.b * m.c) * ((m.a : Rat) * m.d - m.b * m.c) = 1 := by
    have : (a * c - b * b) * ((((m.a : Rat) * m.d - m.b * m.c) * ((m.a : Rat) * m.d - m.b * m.c)) - 1) = 0 := by grind
    rcases Rat.mul_eq_zero.mp this with z | z <;> grind
  have e3 : dt m * dt m = 1 := by
    have : ((dt m * dt m : Int) : Rat) = ((1 : Int) : Rat) := by
      unfold dt
      rw [Rat.intCast_mul, Rat.intCast_sub, Rat.intCast_mul, Rat.intCast_mul, e2]; rfl
    exact Rat.intCast_inj.mp this
  have e4 : (dt m - 1) * (dt m + 1) = 0 := by grind
  rcases Int.mul_eq_zero.mp e4 with z | z
  · left; omega
  · right; omega
theorem Aut.rv (h : Aut a b c m) (hu : Un m) : Aut a b c (rv m) := by
  have e := tn_rv hu
  have e' := rv_tn hu
  have e1 := congrArg Mq.a e'
  have e2 := congrArg Mq.b e'
  have e3 := congrArg Mq.c e'
  have e4 := congrArg Mq.d e'
  simp only [My.tn, oneq] at e1 e2 e3 e4
  refine ⟨?_, ?_, ?_⟩
  · rw [← h.qf, e1, e3]; exact qf_10'
  · rw [← h.bf, e1, e2, e3, e4]; exact bf_10'
  · rw [← h.qf, e2, e4]; exact qf_01'
where
  qf_10' {a b c : Rat} : My.qf a b c 1 0 = a := by
    unfold My.qf
    have h1 : ((1 : Int) : Rat) = 1 := rfl
    have h0 : ((0 : Int) : Rat) = 0 := rfl
    rw [h1, h0]; grind
  qf_01' {a b c : Rat} : My.qf a b c 0 1 = c := by
    unfold My.qf
    have h1 : ((1 : Int) : Rat) = 1 := rfl
    have h0 : ((0 : Int) : Rat) = 0 := rfl
    rw [h1, h0]; grind
  bf_10' {a b c : Rat} : My.bf a b c 1 0 0 1 = b := by
    unfold My.bf
    have h1 : ((1 : Int) : Rat) = 1 := rfl
    have h0 : ((0 : Int) : Rat) = 0 := rfl
    rw [h1, h0]; grind
theorem Aut.cj (h : Aut a b c P) (hu : Un P) (k : Aut a b c m) : Aut a b c (cj P m) := ((h.rv hu).tn k).tn h
/-- entries from -1 to 1 -/
def Sm (m : Mq) : Prop := (-1 ≤ m.a ∧ m.a ≤ 1) ∧ (-1 ≤ m.b ∧ m.b ≤ 1) ∧ (-1 ≤ m.c ∧ m.c ≤ 1) ∧ (-1 ≤ m.d ∧ m.d ≤ 1)
theorem small_of_sq {x : Int} (h : x * x ≤ 2) : -1 ≤ x ∧ x ≤ 1 := by
  constructor
  · by_cases z : -1 ≤ x
    · exact z
    · have : 2 * 2 ≤ (-x) * (-x) := Int.mul_le_mul (by omega) (by omega) (by omega) (by omega)
      rw [Int.neg_mul_neg] at this
      omega
  · by_cases z : x ≤ 1
    · exact z
    · have : 2 * 2 ≤ x * x := Int.mul_le_mul (by omega) (by omega) (by omega) (by omega)
      omega
theorem aut_small (h0 : 0 ≤ b) (h1 : 2 * b ≤ a) (h2 : a ≤ c) (ha : 0 < a) (h : Aut a b c m) (hu : Un m) : Sm m := by
  have key : ∀ x y : Int, My.qf a b c x y ≤ c → y * y ≤ 2 := fun x y hq => by
    by_cases z : y * y ≤ 2
    · exact z
    · exfalso
      have hy : (3 : Rat) ≤ (y : Rat) * y := by
        have : (3 : Int) ≤ y * y := by omega
        have := cast_le this
        rwa [Rat.intCast_mul] at this
      have sq : ∀ t : Rat, 0 ≤ t * t := fun t => by
        by_cases q : 0 ≤ t
        · exact Rat.mul_nonneg q q
        · have := Rat.mul_nonneg (a := -t) (b := -t) (by grind) (by grind)
          grind
      unfold My.qf at hq
      have p1 := Rat.mul_nonneg (Rat.le_of_lt ha) (sq ((x : Rat) + y))
      have p2 := Rat.mul_nonneg (Rat.le_of_lt ha) (sq ((x : Rat) - y))
      have p3 := Rat.mul_nonneg h0 (sq ((x : Rat) + y))
      have p4 := Rat.mul_nonneg (show 0 ≤ a - 2 * b by grind) (sq (x : Rat))
      have p5 := Rat.mul_nonneg (show 0 ≤ a - 2 * b by grind) (sq (y : Rat))
      have p6 := Rat.mul_nonneg (show 0 ≤ c - a by grind) (show 0 ≤ (y : Rat) * y - 3 by grind)
      have p7 := Rat.mul_nonneg h0 (show 0 ≤ (y : Rat) * y - 3 by grind)
      have p8 := Rat.mul_nonneg (show 0 ≤ a - b by grind) (show 0 ≤ (y : Rat) * y - 3 by grind)
      have p9 := Rat.mul_nonneg (show 0 ≤ a - b by grind) (sq (x : Rat))
      grind
  have hc := small_of_sq (key m.a m.c (by rw [h.f]; exact h2))
  have hd := small_of_sq (key m.b m.d (by rw [h.g]; exact Rat.le_refl))
  have col1 : ∀ x y : Int, -1 ≤ y ∧ y ≤ 1 → (y = 0 → x = 1 ∨ x = -1) → My.qf a b c x y ≤ c → (-1 ≤ x ∧ x ≤ 1) := fun x y hy h0' hq => by
    by_cases z : y = 0
    · rcases h0' z with e | e <;> omega
    · have hy1 : (y : Rat) * y = 1 := by
        have : y = 1 ∨ y = -1 := by omega
        rcases this with e | e <;> subst e <;> decide +kernel
      unfold My.qf at hq
      have hcy : c * ((y : Rat) * y) = c := by rw [hy1, Rat.mul_one]
      rw [hcy] at hq
      have hx : a * ((x : Rat) * x) + 2 * b * ((x : Rat) * y) ≤ 0 := by
        clear key hy1 h hcy
        grind
      by_cases w : -1 ≤ x ∧ x ≤ 1
      · exact w
      · exfalso
        have hxx : (2 : Int) ≤ x ∨ x ≤ -2 := by omega
        have hyy : y = 1 ∨ y = -1 := by omega
        have pos : ∀ t : Rat, 2 ≤ t → 0 < a * (t * t) + 2 * b * t ∧ 0 < a * (t * t) - 2 * b * t := fun t ht => by
          have q1 := Rat.mul_nonneg (Rat.le_of_lt ha) (show 0 ≤ t - 2 by grind)
          have q2 := Rat.mul_nonneg (Rat.mul_nonneg (Rat.le_of_lt ha) (show 0 ≤ t - 2 by grind)) (show 0 ≤ t by grind)
          have q3 := Rat.mul_nonneg (show 0 ≤ a - 2 * b by grind) (show 0 ≤ t by grind)
          have q4 := Rat.mul_nonneg h0 (show 0 ≤ t by grind)
          constructor <;> grind
        rcases hxx with e | e
        · have e' := cast_le e
          have e2 : ((2 : Int) : Rat) = 2 := rfl
          rw [e2] at e'
          have := pos x e'
          rcases hyy with f | f <;> subst f
          · have f1 : ((1 : Int) : Rat) = 1 := rfl
            rw [f1] at hx; grind
          · have f1 : ((-1 : Int) : Rat) = -1 := rfl
            rw [f1] at hx; grind
        · have e' := cast_le e
          have e2 : ((-2 : Int) : Rat) = -2 := rfl
          rw [e2] at e'
          have := pos (-x) (by grind)
          rcases hyy with f | f <;> subst f
          · have f1 : ((1 : Int) : Rat) = 1 := rfl
            rw [f1] at hx; grind
          · have f1 : ((-1 : Int) : Rat) = -1 := rfl
            rw [f1] at hx; grind
  have u1 : ∀ x y : Int, x * y = 1 ∨ x * y = -1 → x = 1 ∨ x = -1 := fun x y q => by
    have : x ∣ 1 := by
      rcases q with q | q
      · exact ⟨y, q.symm⟩
      · exact ⟨-y, by rw [Int.mul_neg, q]; rfl⟩
    have := Int.natAbs_dvd_natAbs.mpr this
    have : x.natAbs = 1 := Nat.dvd_one.mp this
    omega
  refine ⟨col1 m.a m.c hc (fun z => u1 m.a m.d ?_) (by rw [h.f]; exact h2), col1 m.b m.d hd (fun z => u1 m.b m.c ?_) (by rw [h.g]; exact Rat.le_refl), hc, hd⟩
  · have := hu; unfold Un dt at this; rw [z, Int.mul_zero, Int.sub_zero] at this; exact this
  · have := hu; unfold Un dt at this; rw [z, Int.mul_zero, Int.zero_sub] at this
    rcases this with q | q <;> omega
end

def stepsL : List (Int × Int) := [(1, 0), (0, 1), (1, 1), (1, -1), (-1, 1), (-1, 0), (0, -1), (-1, -1)]
def smallM (k : Nat) : Mq := ⟨(k : Int) % 3 - 1, (k : Int) / 3 % 3 - 1, (k : Int) / 9 % 3 - 1, (k : Int) / 27 - 1⟩
def smallL : List Mq := ((List.range 81).map smallM).filter fun m => decide (Un m)
instance {a b c : Rat} (m : Mq) : Decidable (Aut a b c m) :=
  if h : qf a b c m.a m.c = a ∧ bf a b c m.a m.c m.b m.d = b ∧ qf a b c m.b m.d = c then .isTrue ⟨h.1, h.2.1, h.2.2⟩ else .isFalse fun k => h ⟨k.f, k.h, k.g⟩
def keepL (a b c : Rat) : List Mq := smallL.filter fun m => decide (Aut a b c m)
/-- what same_lengths lists -/
def sameL (a b c A B C : Rat) : List ((Int × Int) × (Int × Int)) :=
  (stepsL.filter fun v => decide (qf a b c v.1 v.2 = A)).flatMap fun v => ((stepsL.filter fun w => decide (qf a b c w.1 w.2 = C)).filter fun w => decide (v.1 * w.2 ≠ v.2 * w.1 ∧ bf a b c v.1 v.2 w.1 w.2 = B)).map fun w => (v, w)
def colM (p : (Int × Int) × (Int × Int)) : Mq := ⟨p.1.1, p.2.1, p.1.2, p.2.2⟩
theorem colM_inj {p q : (Int × Int) × (Int × Int)} (h : colM p = colM q) : p = q := by
  obtain ⟨⟨_, _⟩, _, _⟩ := p
  obtain ⟨⟨_, _⟩, _, _⟩ := q
  simp only [colM, Mq.mk.injEq] at h
  obtain ⟨h1, h2, h3, h4⟩ := h
  subst h1 h2 h3 h4; rfl
theorem steps_mem {x y : Int} (hx : -1 ≤ x ∧ x ≤ 1) (hy : -1 ≤ y ∧ y ≤ 1) (h : x ≠ 0 ∨ y ≠ 0) : (x, y) ∈ stepsL := by
  have h1 : x = -1 ∨ x = 0 ∨ x = 1 := by omega
  have h2 : y = -1 ∨ y = 0 ∨ y = 1 := by omega
  rcases h1 with rfl | rfl | rfl <;> rcases h2 with rfl | rfl | rfl <;> first | decide | (exfalso; simp at h)
theorem small_mem {m : Mq} (h : Sm m) (hu : Un m) : m ∈ smallL := by
  obtain ⟨a, b, c, d⟩ := m
  obtain ⟨h1, h2, h3, h4⟩ := h
  simp only at h1 h2 h3 h4
  refine List.mem_filter.mpr ⟨List.mem_map.mpr ⟨((a + 1) + 3 * (b + 1) + 9 * (c + 1) + 27 * (d + 1)).toNat, List.mem_range.mpr (by omega), ?_⟩, decide_eq_true hu⟩
  apply mq_e <;> (simp only [smallM]; omega)
theorem small_sm {m : Mq} (h : m ∈ smallL) : Sm m ∧ Un m := by
  obtain ⟨h1, h2⟩ := List.mem_filter.mp h
  obtain ⟨k, hk, rfl⟩ := List.mem_map.mp h1
  have := List.mem_range.mp hk
  refine ⟨?_, of_decide_eq_true h2⟩
  unfold Sm smallM
  simp only
  omega
theorem small_nodup : smallL.Nodup := by decide +kernel
/-- reduced -/
structure Sh0 (a b c : Rat) : Prop where
  p : 0 < a
  b0 : 0 ≤ b
  b1 : 2 * b ≤ a
  c1 : a ≤ c
theorem Sh0.d {a b c : Rat} (h : Sh0 a b c) : 0 < a * c - b * b := by
  have h1 := Rat.mul_pos h.p h.p
  have h2 := Rat.mul_nonneg (Rat.le_of_lt h.p) (show 0 ≤ c - a by have := h.c1; grind)
  have h3 := Rat.mul_nonneg h.b0 (show 0 ≤ a - 2 * b by have := h.b1; grind)
  have h4 := Rat.mul_nonneg (Rat.le_of_lt h.p) (show 0 ≤ a - 2 * b by have := h.b1; grind)
  grind
section
variable {a b c : Rat}
theorem keep_mem (h : Sh0 a b c) {m : Mq} : m ∈ keepL a b c ↔ Aut a b c m := by
  constructor
  · intro k; exact of_decide_eq_true (List.mem_filter.mp k).2
  · intro k
    have hu := aut_un h.d k
    exact List.mem_filter.mpr ⟨small_mem (aut_small h.b0 h.b1 h.c1 h.p k hu) hu, decide_eq_true k⟩
theorem same_mem (h : Sh0 a b c) {m : Mq} : m ∈ (sameL a b c a b c).map colM ↔ Aut a b c m := by
  constructor
  · intro k
    obtain ⟨p, hp, rfl⟩ := List.mem_map.mp k
    obtain ⟨v, hv, hw⟩ := List.mem_flatMap.mp hp
    obtain ⟨w, hw2, rfl⟩ := List.mem_map.mp hw
    obtain ⟨hw3, h3⟩ := List.mem_filter.mp hw2
    obtain ⟨_, h2⟩ := List.mem_filter.mp hw3
    obtain ⟨_, h1⟩ := List.mem_filter.mp hv
    exact ⟨of_decide_eq_true h1, (of_decide_eq_true h3).2, of_decide_eq_true h2⟩
  · intro k
    have hu := aut_un h.d k
    have hs := aut_small h.b0 h.b1 h.c1 h.p k hu
    have hd : dt m ≠ 0 := by rcases hu with q | q <;> rw [q] <;> decide
    have hne : m.a * m.d ≠ m.c * m.b := fun z => hd (by unfold dt; rw [z, Int.mul_comm m.c]; omega)
    refine List.mem_map.mpr ⟨((m.a, m.c), (m.b, m.d)), List.mem_flatMap.mpr ⟨(m.a, m.c), List.mem_filter.mpr ⟨steps_mem hs.1 hs.2.2.1 ?_, decide_eq_true k.f⟩, List.mem_map.mpr ⟨(m.b, m.d), List.mem_filter.mpr ⟨List.mem_filter.mpr ⟨steps_mem hs.2.1 hs.2.2.2 ?_, decide_eq_true k.g⟩, decide_eq_true ⟨hne, k.h⟩⟩, rfl⟩⟩, rfl⟩
    · by_cases z : m.a = 0
      · right; intro z2; exact hne (by rw [z, z2]; omega)
      · exact .inl z
    · by_cases z : m.b = 0
      · right; intro z2; exact hne (by rw [z, z2]; omega)
      · exact .inl z
theorem steps_nodup : stepsL.Nodup := by decide
theorem same_nodup {A B C : Rat} : (sameL a b c A B C).Nodup := by
  unfold sameL List.Nodup
  rw [List.pairwise_flatMap]
  constructor
  · intro v _
    rw [List.pairwise_map]
    exact ((steps_nodup.filter _).filter _).imp fun hne e => hne (by simpa using e)
  · refine (steps_nodup.filter _).imp fun {v v'} hne p hp q hq e => ?_
    obtain ⟨_, _, rfl⟩ := List.mem_map.mp hp
    obtain ⟨_, _, rfl⟩ := List.mem_map.mp hq
    exact hne (Prod.mk.inj e).1
theorem nodup_map {α β : Type} {f : α → β} {l : List α} (inj : ∀ x y, f x = f y → x = y) (h : l.Nodup) : (l.map f).Nodup := List.pairwise_map.mpr (h.imp fun hne e => hne (inj _ _ e))
/-- the matrices that keep a cell, told by both ways, are the same up to order -/
theorem keep_perm (h : Sh0 a b c) {N P : Mq} (hN : Un N) (hP : Aut a b c P) : ((sameL a b c a b c).map fun p => cj (tn P N) (colM p)).Perm ((keepL a b c).map (cj N)) := by
  have hu := aut_un h.d hP
  have e : ((sameL a b c a b c).map fun p => cj (tn P N) (colM p)) = (((sameL a b c a b c).map colM).map (cj P)).map (cj N) := by
    rw [List.map_map, List.map_map]
    exact List.map_congr_left fun p _ => cj_tn hu hN
  rw [e]
  refine List.Perm.map _ ((List.perm_ext_iff_of_nodup ?_ ?_).mpr fun m => ?_)
  · exact nodup_map (fun x y => cj_inj hu) (nodup_map (fun x y => colM_inj) same_nodup)
  · exact small_nodup.filter _
  · rw [keep_mem h]
    constructor
    · intro k
      obtain ⟨n, hn, rfl⟩ := List.mem_map.mp k
      exact hP.cj hu ((same_mem h).mp hn)
    · intro k
      refine List.mem_map.mpr ⟨cj (rv P) m, (same_mem h).mpr ((hP.rv hu).cj (un_rv hu) k), ?_⟩
      have := cj_back (m := m) (un_rv hu)
      rw [rv_rv hu] at this
      exact this
end
/-! how many there are -/
def bi (a b c x y z w : Int) : Int := a * (x * z) + (b * (x * w + y * z) + c * (y * w))
def autI (a b c : Int) (m : Mq) : Bool := decide (qi a b c m.a m.c = a ∧ bi a b c m.a m.c m.b m.d = b ∧ qi a b c m.b m.d = c)
theorem bi_cast {a b c : Rat} {D a' b' c' : Int} (I : Int3 a b c D a' b' c') (x y z w : Int) : (bi a' b' c' x y z w : Rat) = bf a b c x y z w * D := by
  unfold bi bf
  simp only [Rat.intCast_add, Rat.intCast_mul]
  rw [← I.ea, ← I.eb, ← I.ec]; grind
theorem autI_iff {a b c : Rat} {D a' b' c' : Int} (I : Int3 a b c D a' b' c') (m : Mq) : decide (Aut a b c m) = autI a' b' c' m := by
  have hD := I.dpos
  have one : ∀ {n : Int} {q r : Rat} {r' : Int}, (n : Rat) = q * D → (r' : Rat) = r * D → (q = r ↔ n = r') := fun {n q r r'} h1 h2 => by
    constructor
    · intro e
      refine Rat.intCast_inj.mp ?_
      rw [h1, h2, e]
    · intro e
      rw [← e, h1] at h2
      have : (q - r) * (D : Rat) = 0 := by grind
      rcases Rat.mul_eq_zero.mp this with z | z <;> grind
  unfold autI
  rw [Bool.eq_iff_iff, decide_eq_true_iff, decide_eq_true_iff]
  constructor
  · intro k
    exact ⟨(one (qi_cast I _ _) I.ea.symm).mp k.f, (one (bi_cast I _ _ _ _) I.eb.symm).mp k.h, (one (qi_cast I _ _) I.ec.symm).mp k.g⟩
  · rintro ⟨k1, k2, k3⟩
    exact ⟨(one (qi_cast I _ _) I.ea.symm).mpr k1, (one (bi_cast I _ _ _ _) I.eb.symm).mpr k2, (one (qi_cast I _ _) I.ec.symm).mpr k3⟩
set_option maxHeartbeats 0 in
theorem cls_same {a b c p q r : Int} (h : (0 < b ∧ 2 * b < a ∧ a < c ∧ p = 3 ∧ q = 1 ∧ r = 4) ∨ (0 < b ∧ 2 * b < a ∧ a = c ∧ p = 3 ∧ q = 1 ∧ r = 3) ∨ (b = 0 ∧ 0 < a ∧ a < c ∧ p = 1 ∧ q = 0 ∧ r = 2) ∨ (b = 0 ∧ 0 < a ∧ a = c ∧ p = 1 ∧ q = 0 ∧ r = 1) ∨
    (2 * b = a ∧ 0 < a ∧ a < c ∧ p = 2 ∧ q = 1 ∧ r = 3) ∨ (2 * b = a ∧ 0 < a ∧ a = c ∧ p = 2 ∧ q = 1 ∧ r = 2)) {m : Mq} (hm : Sm m) : autI a b c m = autI p q r m := by
  obtain ⟨x, y, z, w⟩ := m
  obtain ⟨h1, h2, h3, h4⟩ := hm
  simp only at h1 h2 h3 h4
  have e1 : x = -1 ∨ x = 0 ∨ x = 1 := by omega
  have e2 : y = -1 ∨ y = 0 ∨ y = 1 := by omega
  have e3 : z = -1 ∨ z = 0 ∨ z = 1 := by omega
  have e4 : w = -1 ∨ w = 0 ∨ w = 1 := by omega
  clear h1 h2 h3 h4
  unfold autI qi bi
  simp only
  rw [Bool.eq_iff_iff, decide_eq_true_iff, decide_eq_true_iff]
  rcases e1 with rfl | rfl | rfl <;> rcases e2 with rfl | rfl | rfl <;> rcases e3 with rfl | rfl | rfl <;> rcases e4 with rfl | rfl | rfl <;> omega
theorem count_of {a b c p q r : Int} (h : ∀ m, Sm m → autI a b c m = autI p q r m) : smallL.filter (autI a b c) = smallL.filter (autI p q r) := List.filter_congr fun m hm => h m (small_sm hm).1
theorem count_ok {a b c : Int} (h0 : 0 < a) (h1 : 0 ≤ b) (h2 : 2 * b ≤ a) (h3 : a ≤ c) : (smallL.filter (autI a b c)).length ∈ [2, 4, 8, 12] := by
  have hc : (0 < b ∧ 2 * b < a ∧ a < c) ∨ (0 < b ∧ 2 * b < a ∧ a = c) ∨ (b = 0 ∧ 0 < a ∧ a < c) ∨ (b = 0 ∧ 0 < a ∧ a = c) ∨ (2 * b = a ∧ 0 < a ∧ a < c) ∨ (2 * b = a ∧ 0 < a ∧ a = c) := by omega
  rcases hc with h | h | h | h | h | h
  · rw [count_of fun m hm => cls_same (p := 3) (q := 1) (r := 4) (.inl ⟨h.1, h.2.1, h.2.2, rfl, rfl, rfl⟩) hm]; decide +kernel
  · rw [count_of fun m hm => cls_same (p := 3) (q := 1) (r := 3) (.inr (.inl ⟨h.1, h.2.1, h.2.2, rfl, rfl, rfl⟩)) hm]; decide +kernel
  · rw [count_of fun m hm => cls_same (p := 1) (q := 0) (r := 2) (.inr (.inr (.inl ⟨h.1, h.2.1, h.2.2, rfl, rfl, rfl⟩))) hm]; decide +kernel
  · rw [count_of fun m hm => cls_same (p := 1) (q := 0) (r := 1) (.inr (.inr (.inr (.inl ⟨h.1, h.2.1, h.2.2, rfl, rfl, rfl⟩)))) hm]; decide +kernel
  · rw [count_of fun m hm => cls_same (p := 2) (q := 1) (r := 3) (.inr (.inr (.inr (.inr (.inl ⟨h.1, h.2.1, h.2.2, rfl, rfl, rfl⟩))))) hm]; decide +kernel
  · rw [count_of fun m hm => cls_same (p := 2) (q := 1) (r := 2) (.inr (.inr (.inr (.inr (.inr ⟨h.1, h.2.1, h.2.2, rfl, rfl, rfl⟩))))) hm]; decide +kernel
theorem keep_count {k : Nat} {a b c : Rat} (h : Sh0 a b c) (ha : Rz k a) (hb : Rz k b) (hc : Rz k c) : (keepL a b c).length ∈ [2, 4, 8, 12] := by
  obtain ⟨D, a', b', c', I, _⟩ := int3_mk ha hb hc
  have hD := I.dpos
  have e : keepL a b c = smallL.filter (autI a' b' c') := List.filter_congr fun m _ => autI_iff I m
  rw [e]
  have p1 : (0 : Rat) < (a' : Rat) := by rw [← I.ea]; exact Rat.mul_pos h.p hD
  have p2 : (0 : Rat) ≤ (b' : Rat) := by rw [← I.eb]; exact Rat.mul_nonneg h.b0 (Rat.le_of_lt hD)
  have p3 : ((2 * b' : Int) : Rat) ≤ (a' : Rat) := by
    have := Rat.mul_nonneg (show 0 ≤ a - 2 * b by have := h.b1; grind) (Rat.le_of_lt hD)
    have e2 : ((2 : Int) : Rat) = 2 := rfl
    rw [Rat.intCast_mul, ← I.ea, ← I.eb, e2]; grind
  have p4 : (a' : Rat) ≤ (c' : Rat) := by
    have := Rat.mul_nonneg (show 0 ≤ c - a by have := h.c1; grind) (Rat.le_of_lt hD)
    rw [← I.ea, ← I.ec]; grind
  exact count_ok (lt_cast p1) (le_cast p2) (le_cast p3) (le_cast p4)

abbrev Mq.D (m : Mq) : TG.D := mt m.a m.b m.c m.d
theorem mq_eqv {m n : Mq} (h : D.eqv m.D n.D = true) : m = n := by
  have e : D.eqv (mt m.a m.b m.c m.d) (mt n.a n.b n.c n.d) = (m.a == n.a && (m.b == n.b && (m.c == n.c && (m.d == n.d && true)))) := rfl
  rw [e] at h
  simp only [Bool.and_eq_true, beq_iff_eq, and_true] at h
  exact mq_e h.1 h.2.1 h.2.2.1 h.2.2.2
theorem mq_alike (m n : Mq) : PySem.W.alike m.D.py n.D.py = true := by
  show PySem.W.alike (.tuple [.int m.a, .int m.b, .int m.c, .int m.d]) (.tuple [.int n.a, .int n.b, .int n.c, .int n.d]) = true
  simp [PySem.W.alike, PySem.W.alikeAll]
theorem mq_rows (l : List Mq) : Rows (l.map Mq.D) := rows_map mq_alike fun m => ⟨_, _, rfl⟩
theorem mq_plains (l : List Mq) : D.plains (l.map Mq.D) = true := plains_map (fun _ => rfl) l
theorem mq_depths (l : List Mq) : D.depths (l.map Mq.D) ≤ 60 := Nat.le_trans (depths_map (n := 1) fun _ => Nat.le_refl _) (by decide)
theorem mq_same (l : List Mq) : D.plain (.lst (l.map Mq.D)) = true ∧ D.depth (.lst (l.map Mq.D)) ≤ 8 := ⟨mq_plains l, Nat.le_trans (Nat.succ_le_succ (depths_map (n := 1) fun _ => Nat.le_refl _)) (by decide)⟩
abbrev vc (v : Int × Int) : D := vec v.1 v.2
abbrev ent (v : Int × Int) : D := .tup [vc v, pt (v.1 : Rat) (v.2 : Rat)]
theorem cl_eqv (a b c A B C : Rat) : D.eqv (cl a b c) (cl A B C) = decide (a = A ∧ b = B ∧ c = C) := by
  have e : D.eqv (cl a b c) (cl A B C) = (D.eqv (rq a) (rq A) && (D.eqv (rq b) (rq B) && (D.eqv (rq c) (rq C) && true))) := rfl
  rw [e, rq_eqv, rq_eqv, rq_eqv, Bool.and_true, Bool.decide_and, Bool.decide_and]
theorem cl_congr {a b c A B C : Rat} (h1 : a = A) (h2 : b = B) (h3 : c = C) : cl a b c = cl A B C := by subst h1 h2 h3; rfl
theorem pick_filter {α : Type} {f : α → D} {p : α → Bool} {g : Nat → D → Option D} : ∀ (l : List α) (k : Nat), (∀ k x, g k (f x) = if p x then some (f x) else none) → pick g k (l.map f) = (l.filter p).map f
  | [], _, _ => rfl
  | x :: l, k, h => by
    rw [List.map_cons, List.filter_cons]
    show (match g k (f x) with | some y => [y] | none => []) ++ pick g (k + 1) (l.map f) = _
    rw [pick_filter l (k + 1) h, h]
    cases p x <;> rfl
structure Sh (a b c : Rat) : Prop where
  p : 0 < a
  b0 : 0 ≤ b
  b1 : 2 * b ≤ a
  c1 : a ≤ c
  ra : Rz 25 a
  rb : Rz 25 b
  rc : Rz 25 c
  da : Sz 5 (a.den : Int)
  db : Sz 12 (b.den : Int)
  dc : Sz 12 (c.den : Int)
theorem Sh.d {a b c : Rat} (h : Sh a b c) : 0 < a * c - b * b := by
  have h1 := Rat.mul_pos h.p h.p
  have h2 := Rat.mul_nonneg (Rat.le_of_lt h.p) (show 0 ≤ c - a by have := h.c1; grind)
  have h3 := Rat.mul_nonneg h.b0 (show 0 ≤ a - 2 * b by have := h.b1; grind)
  have h4 := Rat.mul_nonneg (Rat.le_of_lt h.p) (show 0 ≤ a - 2 * b by have := h.b1; grind)
  grind
theorem told_d {a b c : Rat} {m i n j : Int} (h : 0 < a * c - b * b) (hd : m * j - i * n = 1 ∨ m * j - i * n = -1) : 0 < qf a b c m i * qf a b c n j - bf a b c m i n j * bf a b c m i n j := by
  have e : qf a b c m i * qf a b c n j - bf a b c m i n j * bf a b c m i n j = (a * c - b * b) * (((m : Rat) * j - i * n) * ((m : Rat) * j - i * n)) := by
    unfold bf qf; grind
  have hr : ((m : Rat) * j - i * n) * ((m : Rat) * j - i * n) = 1 := by
    have : (m : Rat) * j - i * n = ((m * j - i * n : Int) : Rat) := by rw [Rat.intCast_sub, Rat.intCast_mul, Rat.intCast_mul]
    rw [this]
    rcases hd with h | h <;> rw [h] <;> decide +kernel
  rw [e, hr, Rat.mul_one]; exact h
theorem final {a b c : Rat} {m i n j x y z w : Int} (h : Sh a b c) (hM : m * j - i * n = 1 ∨ m * j - i * n = -1) (hd : x * w - y * z = 1 ∨ x * w - y * z = -1)
    (B0 : 0 ≤ bf (qf a b c m i) (bf a b c m i n j) (qf a b c n j) x y z w) (B1 : 2 * bf (qf a b c m i) (bf a b c m i n j) (qf a b c n j) x y z w ≤ qf (qf a b c m i) (bf a b c m i n j) (qf a b c n j) x y) (B2 : qf (qf a b c m i) (bf a b c m i n j) (qf a b c n j) x y ≤ qf (qf a b c m i) (bf a b c m i n j) (qf a b c n j) z w) :
    qf (qf a b c m i) (bf a b c m i n j) (qf a b c n j) x y = a ∧ bf (qf a b c m i) (bf a b c m i n j) (qf a b c n j) x y z w = b ∧ qf (qf a b c m i) (bf a b c m i n j) (qf a b c n j) z w = c := by
  refine red_unique (x := m * x + n * y) (y := i * x + j * y) (z := m * z + n * w) (w := i * z + j * w) h.b0 h.b1 h.c1 B0 B1 B2 ?_ comp_qf comp_qf comp_bf
  have e : (m * x + n * y) * (i * z + j * w) - (i * x + j * y) * (m * z + n * w) = (m * j - i * n) * (x * w - y * z) := by grind
  rw [e]
  rcases hM with h1 | h1 <;> rcases hd with h2 | h2 <;> rw [h1, h2] <;> decide
section
variable {P : Program} {w : World} {K : PySem.W.Frag} {mg : Str → Option Value} {base : Heap}
abbrev S__law_cell : Spc := ⟨fun ds Q => ∃ ns : List Int, ∃ k : Nat, ds = [.lst (ns.map .int), .int (k : Int)] ∧ (True) ∧ Q (.va (.int (ns.getD k 0))), fun _ _ _ kk_ ⟨ns, k, e_, p_, q_⟩ => ⟨ns, k, e_, p_, kk_ _ q_⟩⟩

theorem sc__law_cell : FnScope ["script", "k"] ["script", "k"] (defScope s__law_cell) := ⟨rfl, rfl, rfl, by decide +kernel, rfl, by decide +kernel, by decide +kernel⟩
theorem body__law_cell (T : Txt K mg)  {f : Addr} {cdv : Value} {A : Around} {outer : List Env} {s : Shared} {H : Hp} (hr : Room (0) (A.deeper (envOfC "_law_cell" (defScope s__law_cell) s.heap.objs.size f cdv))) (ds : List D) (Q : O → Prop) (hS : (S__law_cell).S ds Q) :
    WSs (cxOf CX0 P w K mg base ["script", "k"] "_law_cell" (defScope s__law_cell) f cdv A outer s H E0).nox noX (defBody s__law_cell) (slots 2 ds) { nx := fun _ => Q (.va .non), rt := Q } := by
  have sc := sc__law_cell
  obtain ⟨ns, k, rfl, hp, hQ⟩ := hS
  refine ws_norm (ρ' := [_, _]) rfl ?_
  refine ws_cons ?_
  refine ws_if (et_lt (ee_var 1 rfl) (ee_len rfl T.m_len (ea_cons (ee_var 0 rfl) ea_nil) rfl)) (fun h2 => ?_) (fun h2 => ?_)
  · skip
    have hk : k < ns.length := by
      have := of_decide_eq_true h2
      rw [List.length_map] at this
      omega
    refine ws_one ?_
    refine ws_retE (ee_ix (ee_var 0 rfl) (ee_var 1 rfl) rfl (by exact atI_ints hk)) ?_
    walk_at "tg return"
  · skip
    have hk : ¬ k < ns.length := fun hk => by
      have := of_decide_eq_false h2
      rw [List.length_map] at this
      omega
    refine ws_nil ?_
    refine ws_one ?_
    refine ws_retE ee_int ?_
    rw [show ns.getD k 0 = 0 by simp [List.getD, List.getElem?_eq_none (Nat.not_lt.mp hk)]] at hQ; exact hQ
theorem cal__law_cell (T : Txt K mg)  : Cal P w K mg base 1 "_law_cell" S__law_cell [] :=
  cal_of (T.d__law_cell.fn (P := P) (w := w) (base := base) (S := S__law_cell) (k := 0) sc__law_cell (fun ds Q h => by obtain ⟨_, _, rfl, _⟩ := h; rfl) fun f cdv A outer s H hr ds Q hS => body__law_cell T  hr ds Q hS) 0 (by decide) (fun G => .nil)
theorem euclid_next {x y k n : Nat} (hy : 0 < y) (h : (k = 0 ∧ y < 2 ^ n) ∨ (0 < k ∧ y < x ∧ x * y * 2 ^ (k - 1) < 2 ^ (2 * n))) : 0 < k + 1 ∧ x % y < y ∧ y * (x % y) * 2 ^ (k + 1 - 1) < 2 ^ (2 * n) := by
  have hr : x % y < y := Nat.mod_lt _ hy
  refine ⟨Nat.succ_pos _, hr, ?_⟩
  rw [Nat.add_sub_cancel]
  rcases h with ⟨rfl, hn⟩ | ⟨hk, hx, hb⟩
  · rw [Nat.pow_zero, Nat.mul_one, Nat.two_mul, Nat.pow_add]
    exact Nat.lt_of_le_of_lt (Nat.mul_le_mul_left _ (Nat.le_of_lt hr)) (Nat.mul_lt_mul'' hn hn)
  · refine Nat.lt_of_le_of_lt ?_ hb
    obtain ⟨j, rfl⟩ : ∃ j, k = j + 1 := ⟨k - 1, by omega⟩
    rw [Nat.add_sub_cancel, Nat.pow_succ, Nat.mul_comm (2 ^ j) 2, ← Nat.mul_assoc]
    refine Nat.mul_le_mul_right _ ?_
    have h2 : 2 * (x % y) ≤ x := by
      have e := Nat.div_add_mod x y
      have q : 1 ≤ x / y := Nat.div_pos (Nat.le_of_lt hx) hy
      have : y ≤ y * (x / y) := Nat.le_mul_of_pos_right _ q
      omega
    calc y * (x % y) * 2 = y * (2 * (x % y)) := by rw [Nat.mul_assoc, Nat.mul_comm (x % y)]
      _ ≤ y * x := Nat.mul_le_mul_left _ h2
      _ = x * y := Nat.mul_comm ..
theorem euclid_end {x y : Nat} (h : (10000 = 0 ∧ y < 2 ^ 4999) ∨ (0 < 10000 ∧ y < x ∧ x * y * 2 ^ (10000 - 1) < 2 ^ (2 * 4999))) : y = 0 := by
  rcases h with ⟨h, _⟩ | ⟨_, hx, hb⟩
  · omega
  · by_cases hy : y = 0
    · exact hy
    · exfalso
      have p : 1 ≤ x * y := Nat.mul_pos (by omega) (by omega)
      have q : 2 ^ (2 * 4999) ≤ 1 * 2 ^ (10000 - 1) := by
        rw [Nat.one_mul]
        exact Nat.pow_le_pow_right (by decide) (by decide)
      have := Nat.mul_le_mul_right (2 ^ (10000 - 1)) p
      omega
abbrev S__law_gcd : Spc := ⟨fun ds Q => ∃ a : Int, ∃ b : Int, ds = [.int a, .int b] ∧ (Sz 4999 b) ∧ Q (.va (.int (Int.gcd a b))), fun _ _ _ kk_ ⟨a, b, e_, p_, q_⟩ => ⟨a, b, e_, p_, kk_ _ q_⟩⟩

theorem sc__law_gcd : FnScope ["a", "b", "k", "c"] ["a", "b"] (defScope s__law_gcd) := ⟨rfl, rfl, rfl, by decide +kernel, rfl, by decide +kernel, by decide +kernel⟩
theorem body__law_gcd (T : Txt K mg)  {f : Addr} {cdv : Value} {A : Around} {outer : List Env} {s : Shared} {H : Hp} (hr : Room (0) (A.deeper (envOfC "_law_gcd" (defScope s__law_gcd) s.heap.objs.size f cdv))) (ds : List D) (Q : O → Prop) (hS : (S__law_gcd).S ds Q) :
    WSs (cxOf CX0 P w K mg base ["a", "b", "k", "c"] "_law_gcd" (defScope s__law_gcd) f cdv A outer s H E0).nox noX (defBody s__law_gcd) (slots 4 ds) { nx := fun _ => Q (.va .non), rt := Q } := by
  have sc := sc__law_gcd
  obtain ⟨a, b, rfl, hsz, hQ⟩ := hS
  refine ws_norm (ρ' := [_, _, _, _]) rfl ?_
  refine ws_cons ?_
  refine ws_setE 0 (ee_abs rfl T.m_abs (ea_cons (ee_var 0 rfl) ea_nil)) ?_ sc.nd
  refine ws_norm (ρ' := [_, _, _, _]) rfl ?_
  rw [natAbs_if]
  refine ws_cons ?_
  refine ws_setE 1 (ee_abs rfl T.m_abs (ea_cons (ee_var 1 rfl) ea_nil)) ?_ sc.nd
  refine ws_norm (ρ' := [_, _, _, _]) rfl ?_
  rw [natAbs_if]
  refine ws_cons ?_
  refine ws_forR (fun k ρ => ∃ x y : Nat, ρ = [.va (.int x), .va (.int y), .un, .un] ∧ Nat.gcd x y = Int.gcd a b ∧ ((k = 0 ∧ y < 2 ^ 4999) ∨ (0 < k ∧ y < x ∧ x * y * 2 ^ (k - 1) < 2 ^ (2 * 4999)))) T.m_range (ea_cons ee_int ea_nil) ?start4 nox_own ?turn4 ?fin4 (by decide)
  case start4 =>
    exact Up.of ⟨a.natAbs, b.natAbs, rfl, rfl, .inl ⟨rfl, hsz⟩⟩
  case turn4 =>
    intro k ρ hk hR
    obtain ⟨x, y, rfl, hg, hb⟩ := hR
    refine ⟨_, (at_name 2 sc.nd), ?_⟩
    refine ws_norm (ρ' := [_, _, _, _]) rfl ?_
    refine ws_cons ?_
    refine ws_if (et_eqI hr.units (ee_var 1 rfl) ee_int) (fun h5 => ?_) (fun h5 => ?_)
    · skip
      skip
      refine ws_one ?_
      refine ws_break ?_
      have hy : (y : Int) = 0 := of_decide_eq_true h5
      obtain rfl : y = 0 := by omega
      rw [Nat.gcd_zero_right] at hg
      subst hg
      refine ws_one ?_
      refine ws_retE (ee_var 0 rfl) ?_
      walk_at "tg return"
    · skip
      have hy : ¬ (y : Int) = 0 := of_decide_eq_false h5
      refine ws_nil ?_
      refine ws_cons ?_
      refine ws_setE 3 (ee_mod (ee_toInt rfl T.m_int (ea_cons (ee_var 0 rfl) ea_nil)) (ee_var 1 rfl) (by walk_at "tg mod")) ?_ sc.nd
      refine ws_norm (ρ' := [_, _, _, _]) rfl ?_
      refine ws_cons ?_
      refine ws_setE 0 (ee_var 1 rfl) ?_ sc.nd
      refine ws_norm (ρ' := [_, _, _, _]) rfl ?_
      refine ws_one ?_
      refine ws_setE 1 (ee_var 3 rfl) ?_ sc.nd
      exact up_intro ⟨y, x % y, rfl, (gcd_turn x y).trans hg, .inr (euclid_next (by omega) hb)⟩ (by walk_at "tg le")
  case fin4 =>
    intro ρ hR
    obtain ⟨x, y, rfl, hg, hb⟩ := hR
    obtain rfl := euclid_end hb
    rw [Nat.gcd_zero_right] at hg
    subst hg
    refine ws_one ?_
    refine ws_retE (ee_var 0 rfl) ?_
    walk_at "tg return"
theorem cal__law_gcd (T : Txt K mg)  : Cal P w K mg base 1 "_law_gcd" S__law_gcd [] :=
  cal_of (T.d__law_gcd.fn (P := P) (w := w) (base := base) (S := S__law_gcd) (k := 0) sc__law_gcd (fun ds Q h => by obtain ⟨_, _, rfl, _⟩ := h; rfl) fun f cdv A outer s H hr ds Q hS => body__law_gcd T  hr ds Q hS) 0 (by decide) (fun G => .nil)
abbrev S__law_frac : Spc := ⟨fun ds Q => ∃ n : Int, ∃ d : Int, ds = [.int n, .int d] ∧ (d ≠ 0 ∧ Sz 4999 d) ∧ Q (.va (rq (Rat.divInt n d))), fun _ _ _ kk_ ⟨n, d, e_, p_, q_⟩ => ⟨n, d, e_, p_, kk_ _ q_⟩⟩

theorem sc__law_frac : FnScope ["n", "d", "g"] ["n", "d"] (defScope s__law_frac) := ⟨rfl, rfl, rfl, by decide +kernel, rfl, by decide +kernel, by decide +kernel⟩
theorem body__law_frac (T : Txt K mg) (C__law_gcd : Cal P w K mg base 1 "_law_gcd" S__law_gcd []) {f : Addr} {cdv : Value} {A : Around} {outer : List Env} {s : Shared} {H : Hp} (hr : Room (1) (A.deeper (envOfC "_law_frac" (defScope s__law_frac) s.heap.objs.size f cdv))) (ds : List D) (Q : O → Prop) (hS : (S__law_frac).S ds Q) :
    WSs (cxOf CX0 P w K mg base ["n", "d", "g"] "_law_frac" (defScope s__law_frac) f cdv A outer s H E0).nox noX (defBody s__law_frac) (slots 3 ds) { nx := fun _ => Q (.va .non), rt := Q } := by
  have sc := sc__law_frac
  obtain ⟨n, d, rfl, ⟨hd, hsz⟩, hQ⟩ := hS
  refine ws_norm (ρ' := [_, _, _]) rfl ?_
  rw [← rq_frac hd] at hQ
  have hg := fg_ne (n := n) hd
  have hgs := fg_sz (n := n) hd hsz
  refine ws_cons ?_
  refine ws_setE 2 (ee_cal (C__law_gcd) (hr.mono (by decide)) (ea_cons (ee_var 0 rfl) (ea_cons (ee_var 1 rfl) ea_nil)) (by exact ⟨_, _, rfl, hsz, rfl⟩)) ?_ sc.nd
  refine ws_norm (ρ' := [_, _, _]) rfl ?_
  refine ws_cons ?_
  refine ws_if (et_lt (ee_var 1 rfl) ee_int) (fun h3 => ?_) (fun h3 => ?_)
  · skip
    have hd0 : d < 0 := of_decide_eq_true h3
    have e : fg n d = -(Int.gcd n d : Int) := if_pos hd0
    refine ws_one ?_
    refine ws_setE 2 (ee_sub ee_int (ee_var 2 rfl)) ?_ sc.nd
    refine ws_norm (ρ' := [_, _, _]) rfl ?_
    refine ws_one ?_
    refine ws_retE (ee_tup (ea_cons (ee_fdiv (ee_var 0 rfl) (ee_var 2 rfl) (by first | (rw [← e]; exact hgs.div hg) | (rw [Int.zero_sub, ← e]; exact hgs.div hg))) (ea_cons (ee_fdiv (ee_var 1 rfl) (ee_var 2 rfl) (by first | (rw [← e]; exact hgs.div hg) | (rw [Int.zero_sub, ← e]; exact hgs.div hg))) ea_nil))) ?_
    first | (rw [← e]; exact hQ) | (rw [Int.zero_sub, ← e]; exact hQ)
  · skip
    have hd0 : ¬ d < 0 := of_decide_eq_false h3
    have e : fg n d = (Int.gcd n d : Int) := if_neg hd0
    refine ws_nil ?_
    refine ws_one ?_
    refine ws_retE (ee_tup (ea_cons (ee_fdiv (ee_var 0 rfl) (ee_var 2 rfl) (by first | (rw [← e]; exact hgs.div hg) | (rw [Int.zero_sub, ← e]; exact hgs.div hg))) (ea_cons (ee_fdiv (ee_var 1 rfl) (ee_var 2 rfl) (by first | (rw [← e]; exact hgs.div hg) | (rw [Int.zero_sub, ← e]; exact hgs.div hg))) ea_nil))) ?_
    first | (rw [← e]; exact hQ) | (rw [Int.zero_sub, ← e]; exact hQ)
theorem cal__law_frac (T : Txt K mg) (C__law_gcd : Cal P w K mg base 1 "_law_gcd" S__law_gcd []) : Cal P w K mg base 2 "_law_frac" S__law_frac [] :=
  cal_of (T.d__law_frac.fn (P := P) (w := w) (base := base) (S := S__law_frac) (k := 1) sc__law_frac (fun ds Q h => by obtain ⟨_, _, rfl, _⟩ := h; rfl) fun f cdv A outer s H hr ds Q hS => body__law_frac T C__law_gcd hr ds Q hS) 0 (by decide) (fun G => .nil)
abbrev S__law_add : Spc := ⟨fun ds Q => ∃ p : Rat, ∃ q : Rat, ds = [rq p, rq q] ∧ (Rz 2000 p ∧ Rz 2000 q) ∧ Q (.va (rq (p + q))), fun _ _ _ kk_ ⟨p, q, e_, p_, q_⟩ => ⟨p, q, e_, p_, kk_ _ q_⟩⟩

theorem sc__law_add : FnScope ["f", "g"] ["f", "g"] (defScope s__law_add) := ⟨rfl, rfl, rfl, by decide +kernel, rfl, by decide +kernel, by decide +kernel⟩
theorem body__law_add (T : Txt K mg) (C__law_frac : Cal P w K mg base 2 "_law_frac" S__law_frac []) {f : Addr} {cdv : Value} {A : Around} {outer : List Env} {s : Shared} {H : Hp} (hr : Room (2) (A.deeper (envOfC "_law_add" (defScope s__law_add) s.heap.objs.size f cdv))) (ds : List D) (Q : O → Prop) (hS : (S__law_add).S ds Q) :
    WSs (cxOf CX0 P w K mg base ["f", "g"] "_law_add" (defScope s__law_add) f cdv A outer s H E0).nox noX (defBody s__law_add) (slots 2 ds) { nx := fun _ => Q (.va .non), rt := Q } := by
  have sc := sc__law_add
  obtain ⟨p, q, rfl, ⟨hp, hq⟩, hQ⟩ := hS
  refine ws_norm (ρ' := [_, _]) rfl ?_
  have h1 := hp.num
  have h2 := hp.den
  have h3 := hq.num
  have h4 := hq.den
  refine ws_one ?_
  refine ws_retE (ee_cal (C__law_frac) (hr.mono (by decide)) (ea_cons (ee_add (ee_mul (ee_ix (ee_var 0 rfl) ee_int rfl rfl) (ee_ix (ee_var 1 rfl) ee_int rfl rfl) (by exact Sz.mulE (by assumption) (by assumption))) (ee_mul (ee_ix (ee_var 1 rfl) ee_int rfl rfl) (ee_ix (ee_var 0 rfl) ee_int rfl rfl) (by exact Sz.mulE (by assumption) (by assumption)))) (ea_cons (ee_mul (ee_ix (ee_var 0 rfl) ee_int rfl rfl) (ee_ix (ee_var 1 rfl) ee_int rfl rfl) (by exact Sz.mulE (by assumption) (by assumption))) ea_nil)) (by exact ⟨_, _, rfl, ⟨mul_ne (rq_ne p) (rq_ne q), (h2.mul h4).mono (by decide)⟩, rfl⟩)) ?_
  rw [rat_add]; exact hQ
theorem cal__law_add (T : Txt K mg) (C__law_frac : Cal P w K mg base 2 "_law_frac" S__law_frac []) : Cal P w K mg base 3 "_law_add" S__law_add [] :=
  cal_of (T.d__law_add.fn (P := P) (w := w) (base := base) (S := S__law_add) (k := 2) sc__law_add (fun ds Q h => by obtain ⟨_, _, rfl, _⟩ := h; rfl) fun f cdv A outer s H hr ds Q hS => body__law_add T C__law_frac hr ds Q hS) 0 (by decide) (fun G => .nil)
abbrev S__law_mul : Spc := ⟨fun ds Q => ∃ p : Rat, ∃ q : Rat, ds = [rq p, rq q] ∧ (Rz 2000 p ∧ Rz 2000 q) ∧ Q (.va (rq (p * q))), fun _ _ _ kk_ ⟨p, q, e_, p_, q_⟩ => ⟨p, q, e_, p_, kk_ _ q_⟩⟩

theorem sc__law_mul : FnScope ["f", "g"] ["f", "g"] (defScope s__law_mul) := ⟨rfl, rfl, rfl, by decide +kernel, rfl, by decide +kernel, by decide +kernel⟩
theorem body__law_mul (T : Txt K mg) (C__law_frac : Cal P w K mg base 2 "_law_frac" S__law_frac []) {f : Addr} {cdv : Value} {A : Around} {outer : List Env} {s : Shared} {H : Hp} (hr : Room (2) (A.deeper (envOfC "_law_mul" (defScope s__law_mul) s.heap.objs.size f cdv))) (ds : List D) (Q : O → Prop) (hS : (S__law_mul).S ds Q) :
    WSs (cxOf CX0 P w K mg base ["f", "g"] "_law_mul" (defScope s__law_mul) f cdv A outer s H E0).nox noX (defBody s__law_mul) (slots 2 ds) { nx := fun _ => Q (.va .non), rt := Q } := by
  have sc := sc__law_mul
  obtain ⟨p, q, rfl, ⟨hp, hq⟩, hQ⟩ := hS
  refine ws_norm (ρ' := [_, _]) rfl ?_
  have h1 := hp.num
  have h2 := hp.den
  have h3 := hq.num
  have h4 := hq.den
  refine ws_one ?_
  refine ws_retE (ee_cal (C__law_frac) (hr.mono (by decide)) (ea_cons (ee_mul (ee_ix (ee_var 0 rfl) ee_int rfl rfl) (ee_ix (ee_var 1 rfl) ee_int rfl rfl) (by exact Sz.mulE (by assumption) (by assumption))) (ea_cons (ee_mul (ee_ix (ee_var 0 rfl) ee_int rfl rfl) (ee_ix (ee_var 1 rfl) ee_int rfl rfl) (by exact Sz.mulE (by assumption) (by assumption))) ea_nil)) (by exact ⟨_, _, rfl, ⟨mul_ne (rq_ne p) (rq_ne q), (h2.mul h4).mono (by decide)⟩, rfl⟩)) ?_
  rw [rat_mul]; exact hQ
theorem cal__law_mul (T : Txt K mg) (C__law_frac : Cal P w K mg base 2 "_law_frac" S__law_frac []) : Cal P w K mg base 3 "_law_mul" S__law_mul [] :=
  cal_of (T.d__law_mul.fn (P := P) (w := w) (base := base) (S := S__law_mul) (k := 2) sc__law_mul (fun ds Q h => by obtain ⟨_, _, rfl, _⟩ := h; rfl) fun f cdv A outer s H hr ds Q hS => body__law_mul T C__law_frac hr ds Q hS) 0 (by decide) (fun G => .nil)
abbrev S__law_scalar : Spc := ⟨fun ds Q => ∃ a : Rat, ∃ b : Rat, ∃ c : Rat, ∃ p : Rat, ∃ q : Rat, ∃ r : Rat, ∃ s : Rat, ds = [cl a b c, pt p q, pt r s] ∧ ((Rz 100 a ∧ Rz 100 b ∧ Rz 100 c) ∧ (Rz 250 p ∧ Rz 250 q) ∧ Rz 250 r ∧ Rz 250 s) ∧ Q (.va (rq (scl a b c p q r s))), fun _ _ _ kk_ ⟨a, b, c, p, q, r, s, e_, p_, q_⟩ => ⟨a, b, c, p, q, r, s, e_, p_, kk_ _ q_⟩⟩

theorem sc__law_scalar : FnScope ["cell", "p", "q", "total", "mixed"] ["cell", "p", "q"] (defScope s__law_scalar) := ⟨rfl, rfl, rfl, by decide +kernel, rfl, by decide +kernel, by decide +kernel⟩
theorem body__law_scalar (T : Txt K mg) (C__law_add : Cal P w K mg base 3 "_law_add" S__law_add []) (C__law_mul : Cal P w K mg base 3 "_law_mul" S__law_mul []) {f : Addr} {cdv : Value} {A : Around} {outer : List Env} {s : Shared} {H : Hp} (hr : Room (3) (A.deeper (envOfC "_law_scalar" (defScope s__law_scalar) s.heap.objs.size f cdv))) (ds : List D) (Q : O → Prop) (hS : (S__law_scalar).S ds Q) :
    WSs (cxOf CX0 P w K mg base ["cell", "p", "q", "total", "mixed"] "_law_scalar" (defScope s__law_scalar) f cdv A outer s H E0).nox noX (defBody s__law_scalar) (slots 5 ds) { nx := fun _ => Q (.va .non), rt := Q } := by
  have sc := sc__law_scalar
  obtain ⟨a, b, c, p, q, r, s, rfl, ⟨⟨ha, hb, hc⟩, ⟨hp, hq⟩, hr', hs⟩, hQ⟩ := hS
  refine ws_norm (ρ' := [_, _, _, _, _]) rfl ?_
  have pr := hp.mul hr'
  have ps := hp.mul hs
  have qr := hq.mul hr'
  have qs := hq.mul hs
  have mx := ps.add qr
  have t1 := ha.mul pr
  have t2 := hb.mul mx
  have t3 := hc.mul qs
  have t4 := t2.add t3
  refine ws_cons ?_
  refine ws_setE 3 (ee_cal (C__law_mul) (hr.mono (by decide)) (ea_cons (ee_ix (ee_var 0 rfl) ee_int rfl rfl) (ea_cons (ee_cal (C__law_mul) (hr.mono (by decide)) (ea_cons (ee_ix (ee_var 1 rfl) ee_int rfl rfl) (ea_cons (ee_ix (ee_var 2 rfl) ee_int rfl rfl) ea_nil)) (by first | exact ⟨_, _, rfl, ⟨hp.mono (by decide), hr'.mono (by decide)⟩, rfl⟩ | exact ⟨_, _, rfl, ⟨hp.mono (by decide), hs.mono (by decide)⟩, rfl⟩ | exact ⟨_, _, rfl, ⟨hq.mono (by decide), hr'.mono (by decide)⟩, rfl⟩ | exact ⟨_, _, rfl, ⟨hq.mono (by decide), hs.mono (by decide)⟩, rfl⟩ | exact ⟨_, _, rfl, ⟨ha.mono (by decide), pr.mono (by decide)⟩, rfl⟩ | exact ⟨_, _, rfl, ⟨hb.mono (by decide), mx.mono (by decide)⟩, rfl⟩ | exact ⟨_, _, rfl, ⟨hc.mono (by decide), qs.mono (by decide)⟩, rfl⟩)) ea_nil)) (by first | exact ⟨_, _, rfl, ⟨hp.mono (by decide), hr'.mono (by decide)⟩, rfl⟩ | exact ⟨_, _, rfl, ⟨hp.mono (by decide), hs.mono (by decide)⟩, rfl⟩ | exact ⟨_, _, rfl, ⟨hq.mono (by decide), hr'.mono (by decide)⟩, rfl⟩ | exact ⟨_, _, rfl, ⟨hq.mono (by decide), hs.mono (by decide)⟩, rfl⟩ | exact ⟨_, _, rfl, ⟨ha.mono (by decide), pr.mono (by decide)⟩, rfl⟩ | exact ⟨_, _, rfl, ⟨hb.mono (by decide), mx.mono (by decide)⟩, rfl⟩ | exact ⟨_, _, rfl, ⟨hc.mono (by decide), qs.mono (by decide)⟩, rfl⟩)) ?_ sc.nd
  refine ws_norm (ρ' := [_, _, _, _, _]) rfl ?_
  refine ws_cons ?_
  refine ws_setE 4 (ee_cal (C__law_add) (hr.mono (by decide)) (ea_cons (ee_cal (C__law_mul) (hr.mono (by decide)) (ea_cons (ee_ix (ee_var 1 rfl) ee_int rfl rfl) (ea_cons (ee_ix (ee_var 2 rfl) ee_int rfl rfl) ea_nil)) (by first | exact ⟨_, _, rfl, ⟨hp.mono (by decide), hr'.mono (by decide)⟩, rfl⟩ | exact ⟨_, _, rfl, ⟨hp.mono (by decide), hs.mono (by decide)⟩, rfl⟩ | exact ⟨_, _, rfl, ⟨hq.mono (by decide), hr'.mono (by decide)⟩, rfl⟩ | exact ⟨_, _, rfl, ⟨hq.mono (by decide), hs.mono (by decide)⟩, rfl⟩ | exact ⟨_, _, rfl, ⟨ha.mono (by decide), pr.mono (by decide)⟩, rfl⟩ | exact ⟨_, _, rfl, ⟨hb.mono (by decide), mx.mono (by decide)⟩, rfl⟩ | exact ⟨_, _, rfl, ⟨hc.mono (by decide), qs.mono (by decide)⟩, rfl⟩)) (ea_cons (ee_cal (C__law_mul) (hr.mono (by decide)) (ea_cons (ee_ix (ee_var 1 rfl) ee_int rfl rfl) (ea_cons (ee_ix (ee_var 2 rfl) ee_int rfl rfl) ea_nil)) (by first | exact ⟨_, _, rfl, ⟨hp.mono (by decide), hr'.mono (by decide)⟩, rfl⟩ | exact ⟨_, _, rfl, ⟨hp.mono (by decide), hs.mono (by decide)⟩, rfl⟩ | exact ⟨_, _, rfl, ⟨hq.mono (by decide), hr'.mono (by decide)⟩, rfl⟩ | exact ⟨_, _, rfl, ⟨hq.mono (by decide), hs.mono (by decide)⟩, rfl⟩ | exact ⟨_, _, rfl, ⟨ha.mono (by decide), pr.mono (by decide)⟩, rfl⟩ | exact ⟨_, _, rfl, ⟨hb.mono (by decide), mx.mono (by decide)⟩, rfl⟩ | exact ⟨_, _, rfl, ⟨hc.mono (by decide), qs.mono (by decide)⟩, rfl⟩)) ea_nil)) (by first | exact ⟨_, _, rfl, ⟨ps.mono (by decide), qr.mono (by decide)⟩, rfl⟩ | exact ⟨_, _, rfl, ⟨t2.mono (by decide), t3.mono (by decide)⟩, rfl⟩ | exact ⟨_, _, rfl, ⟨t1.mono (by decide), t4.mono (by decide)⟩, rfl⟩)) ?_ sc.nd
  refine ws_norm (ρ' := [_, _, _, _, _]) rfl ?_
  refine ws_one ?_
  refine ws_retE (ee_cal (C__law_add) (hr.mono (by decide)) (ea_cons (ee_var 3 rfl) (ea_cons (ee_cal (C__law_add) (hr.mono (by decide)) (ea_cons (ee_cal (C__law_mul) (hr.mono (by decide)) (ea_cons (ee_ix (ee_var 0 rfl) ee_int rfl rfl) (ea_cons (ee_var 4 rfl) ea_nil)) (by first | exact ⟨_, _, rfl, ⟨hp.mono (by decide), hr'.mono (by decide)⟩, rfl⟩ | exact ⟨_, _, rfl, ⟨hp.mono (by decide), hs.mono (by decide)⟩, rfl⟩ | exact ⟨_, _, rfl, ⟨hq.mono (by decide), hr'.mono (by decide)⟩, rfl⟩ | exact ⟨_, _, rfl, ⟨hq.mono (by decide), hs.mono (by decide)⟩, rfl⟩ | exact ⟨_, _, rfl, ⟨ha.mono (by decide), pr.mono (by decide)⟩, rfl⟩ | exact ⟨_, _, rfl, ⟨hb.mono (by decide), mx.mono (by decide)⟩, rfl⟩ | exact ⟨_, _, rfl, ⟨hc.mono (by decide), qs.mono (by decide)⟩, rfl⟩)) (ea_cons (ee_cal (C__law_mul) (hr.mono (by decide)) (ea_cons (ee_ix (ee_var 0 rfl) ee_int rfl rfl) (ea_cons (ee_cal (C__law_mul) (hr.mono (by decide)) (ea_cons (ee_ix (ee_var 1 rfl) ee_int rfl rfl) (ea_cons (ee_ix (ee_var 2 rfl) ee_int rfl rfl) ea_nil)) (by first | exact ⟨_, _, rfl, ⟨hp.mono (by decide), hr'.mono (by decide)⟩, rfl⟩ | exact ⟨_, _, rfl, ⟨hp.mono (by decide), hs.mono (by decide)⟩, rfl⟩ | exact ⟨_, _, rfl, ⟨hq.mono (by decide), hr'.mono (by decide)⟩, rfl⟩ | exact ⟨_, _, rfl, ⟨hq.mono (by decide), hs.mono (by decide)⟩, rfl⟩ | exact ⟨_, _, rfl, ⟨ha.mono (by decide), pr.mono (by decide)⟩, rfl⟩ | exact ⟨_, _, rfl, ⟨hb.mono (by decide), mx.mono (by decide)⟩, rfl⟩ | exact ⟨_, _, rfl, ⟨hc.mono (by decide), qs.mono (by decide)⟩, rfl⟩)) ea_nil)) (by first | exact ⟨_, _, rfl, ⟨hp.mono (by decide), hr'.mono (by decide)⟩, rfl⟩ | exact ⟨_, _, rfl, ⟨hp.mono (by decide), hs.mono (by decide)⟩, rfl⟩ | exact ⟨_, _, rfl, ⟨hq.mono (by decide), hr'.mono (by decide)⟩, rfl⟩ | exact ⟨_, _, rfl, ⟨hq.mono (by decide), hs.mono (by decide)⟩, rfl⟩ | exact ⟨_, _, rfl, ⟨ha.mono (by decide), pr.mono (by decide)⟩, rfl⟩ | exact ⟨_, _, rfl, ⟨hb.mono (by decide), mx.mono (by decide)⟩, rfl⟩ | exact ⟨_, _, rfl, ⟨hc.mono (by decide), qs.mono (by decide)⟩, rfl⟩)) ea_nil)) (by first | exact ⟨_, _, rfl, ⟨ps.mono (by decide), qr.mono (by decide)⟩, rfl⟩ | exact ⟨_, _, rfl, ⟨t2.mono (by decide), t3.mono (by decide)⟩, rfl⟩ | exact ⟨_, _, rfl, ⟨t1.mono (by decide), t4.mono (by decide)⟩, rfl⟩)) ea_nil)) (by first | exact ⟨_, _, rfl, ⟨ps.mono (by decide), qr.mono (by decide)⟩, rfl⟩ | exact ⟨_, _, rfl, ⟨t2.mono (by decide), t3.mono (by decide)⟩, rfl⟩ | exact ⟨_, _, rfl, ⟨t1.mono (by decide), t4.mono (by decide)⟩, rfl⟩)) ?_
  walk_at "tg return"
theorem cal__law_scalar (T : Txt K mg) (C__law_add : Cal P w K mg base 3 "_law_add" S__law_add []) (C__law_mul : Cal P w K mg base 3 "_law_mul" S__law_mul []) : Cal P w K mg base 4 "_law_scalar" S__law_scalar [] :=
  cal_of (T.d__law_scalar.fn (P := P) (w := w) (base := base) (S := S__law_scalar) (k := 3) sc__law_scalar (fun ds Q h => by obtain ⟨_, _, _, _, _, _, _, rfl, _⟩ := h; rfl) fun f cdv A outer s H hr ds Q hS => body__law_scalar T C__law_add C__law_mul hr ds Q hS) 0 (by decide) (fun G => .nil)
abbrev S__law_cell_of : Spc := ⟨fun ds Q => ∃ a : Rat, ∃ b : Rat, ∃ c : Rat, ∃ p : Rat, ∃ q : Rat, ∃ r : Rat, ∃ s : Rat, ds = [cl a b c, pt p q, pt r s] ∧ ((Rz 100 a ∧ Rz 100 b ∧ Rz 100 c) ∧ (Rz 250 p ∧ Rz 250 q) ∧ Rz 250 r ∧ Rz 250 s) ∧ Q (.va (cl (scl a b c p q p q) (scl a b c p q r s) (scl a b c r s r s))), fun _ _ _ kk_ ⟨a, b, c, p, q, r, s, e_, p_, q_⟩ => ⟨a, b, c, p, q, r, s, e_, p_, kk_ _ q_⟩⟩

theorem sc__law_cell_of : FnScope ["cell", "f", "g"] ["cell", "f", "g"] (defScope s__law_cell_of) := ⟨rfl, rfl, rfl, by decide +kernel, rfl, by decide +kernel, by decide +kernel⟩
theorem body__law_cell_of (T : Txt K mg) (C__law_scalar : Cal P w K mg base 4 "_law_scalar" S__law_scalar []) {f : Addr} {cdv : Value} {A : Around} {outer : List Env} {s : Shared} {H : Hp} (hr : Room (4) (A.deeper (envOfC "_law_cell_of" (defScope s__law_cell_of) s.heap.objs.size f cdv))) (ds : List D) (Q : O → Prop) (hS : (S__law_cell_of).S ds Q) :
    WSs (cxOf CX0 P w K mg base ["cell", "f", "g"] "_law_cell_of" (defScope s__law_cell_of) f cdv A outer s H E0).nox noX (defBody s__law_cell_of) (slots 3 ds) { nx := fun _ => Q (.va .non), rt := Q } := by
  have sc := sc__law_cell_of
  obtain ⟨a, b, c, p, q, r, s, rfl, ⟨hz, h1, h2⟩, hQ⟩ := hS
  refine ws_norm (ρ' := [_, _, _]) rfl ?_
  refine ws_one ?_
  refine ws_retE (ee_tup (ea_cons (ee_cal (C__law_scalar) (hr.mono (by decide)) (ea_cons (ee_var 0 rfl) (ea_cons (ee_var 1 rfl) (ea_cons (ee_var 1 rfl) ea_nil))) (by first | exact ⟨_, _, _, _, _, _, _, rfl, ⟨hz, h1, h1⟩, rfl⟩ | exact ⟨_, _, _, _, _, _, _, rfl, ⟨hz, h1, h2⟩, rfl⟩ | exact ⟨_, _, _, _, _, _, _, rfl, ⟨hz, h2, h2⟩, rfl⟩)) (ea_cons (ee_cal (C__law_scalar) (hr.mono (by decide)) (ea_cons (ee_var 0 rfl) (ea_cons (ee_var 1 rfl) (ea_cons (ee_var 2 rfl) ea_nil))) (by first | exact ⟨_, _, _, _, _, _, _, rfl, ⟨hz, h1, h1⟩, rfl⟩ | exact ⟨_, _, _, _, _, _, _, rfl, ⟨hz, h1, h2⟩, rfl⟩ | exact ⟨_, _, _, _, _, _, _, rfl, ⟨hz, h2, h2⟩, rfl⟩)) (ea_cons (ee_cal (C__law_scalar) (hr.mono (by decide)) (ea_cons (ee_var 0 rfl) (ea_cons (ee_var 2 rfl) (ea_cons (ee_var 2 rfl) ea_nil))) (by first | exact ⟨_, _, _, _, _, _, _, rfl, ⟨hz, h1, h1⟩, rfl⟩ | exact ⟨_, _, _, _, _, _, _, rfl, ⟨hz, h1, h2⟩, rfl⟩ | exact ⟨_, _, _, _, _, _, _, rfl, ⟨hz, h2, h2⟩, rfl⟩)) ea_nil)))) ?_
  walk_at "tg return"
theorem cal__law_cell_of (T : Txt K mg) (C__law_scalar : Cal P w K mg base 4 "_law_scalar" S__law_scalar []) : Cal P w K mg base 5 "_law_cell_of" S__law_cell_of [] :=
  cal_of (T.d__law_cell_of.fn (P := P) (w := w) (base := base) (S := S__law_cell_of) (k := 4) sc__law_cell_of (fun ds Q h => by obtain ⟨_, _, _, _, _, _, _, rfl, _⟩ := h; rfl) fun f cdv A outer s H hr ds Q hS => body__law_cell_of T C__law_scalar hr ds Q hS) 0 (by decide) (fun G => .nil)
abbrev S__law_vector : Spc := ⟨fun ds Q => ∃ x : Int, ∃ y : Int, ds = [.int x, .int y] ∧ (True) ∧ Q (.va (pt (x : Rat) (y : Rat))), fun _ _ _ kk_ ⟨x, y, e_, p_, q_⟩ => ⟨x, y, e_, p_, kk_ _ q_⟩⟩

theorem sc__law_vector : FnScope ["x", "y"] ["x", "y"] (defScope s__law_vector) := ⟨rfl, rfl, rfl, by decide +kernel, rfl, by decide +kernel, by decide +kernel⟩
theorem body__law_vector (T : Txt K mg)  {f : Addr} {cdv : Value} {A : Around} {outer : List Env} {s : Shared} {H : Hp} (hr : Room (0) (A.deeper (envOfC "_law_vector" (defScope s__law_vector) s.heap.objs.size f cdv))) (ds : List D) (Q : O → Prop) (hS : (S__law_vector).S ds Q) :
    WSs (cxOf CX0 P w K mg base ["x", "y"] "_law_vector" (defScope s__law_vector) f cdv A outer s H E0).nox noX (defBody s__law_vector) (slots 2 ds) { nx := fun _ => Q (.va .non), rt := Q } := by
  have sc := sc__law_vector
  obtain ⟨x, y, rfl, hp, hQ⟩ := hS
  refine ws_norm (ρ' := [_, _]) rfl ?_
  refine ws_one ?_
  refine ws_retE (ee_tup (ea_cons (ee_tup (ea_cons (ee_var 0 rfl) (ea_cons ee_int ea_nil))) (ea_cons (ee_tup (ea_cons (ee_var 1 rfl) (ea_cons ee_int ea_nil))) ea_nil))) ?_
  walk_at "tg return"
theorem cal__law_vector (T : Txt K mg)  : Cal P w K mg base 1 "_law_vector" S__law_vector [] :=
  cal_of (T.d__law_vector.fn (P := P) (w := w) (base := base) (S := S__law_vector) (k := 0) sc__law_vector (fun ds Q h => by obtain ⟨_, _, rfl, _⟩ := h; rfl) fun f cdv A outer s H hr ds Q hS => body__law_vector T  hr ds Q hS) 0 (by decide) (fun G => .nil)
abbrev S__law_other_cell : Spc := ⟨fun ds Q => ∃ a : Rat, ∃ b : Rat, ∃ c : Rat, ∃ m : Int, ∃ n : Int, ∃ i : Int, ∃ j : Int, ds = [cl a b c, mt m n i j] ∧ ((Rz 100 a ∧ Rz 100 b ∧ Rz 100 c) ∧ Mz 250 m n i j) ∧ Q (.va (cl (scl a b c m i m i) (scl a b c m i n j) (scl a b c n j n j))), fun _ _ _ kk_ ⟨a, b, c, m, n, i, j, e_, p_, q_⟩ => ⟨a, b, c, m, n, i, j, e_, p_, kk_ _ q_⟩⟩

theorem sc__law_other_cell : FnScope ["cell", "matrix"] ["cell", "matrix"] (defScope s__law_other_cell) := ⟨rfl, rfl, rfl, by decide +kernel, rfl, by decide +kernel, by decide +kernel⟩
theorem body__law_other_cell (T : Txt K mg) (C__law_cell_of : Cal P w K mg base 5 "_law_cell_of" S__law_cell_of []) (C__law_vector : Cal P w K mg base 1 "_law_vector" S__law_vector []) {f : Addr} {cdv : Value} {A : Around} {outer : List Env} {s : Shared} {H : Hp} (hr : Room (5) (A.deeper (envOfC "_law_other_cell" (defScope s__law_other_cell) s.heap.objs.size f cdv))) (ds : List D) (Q : O → Prop) (hS : (S__law_other_cell).S ds Q) :
    WSs (cxOf CX0 P w K mg base ["cell", "matrix"] "_law_other_cell" (defScope s__law_other_cell) f cdv A outer s H E0).nox noX (defBody s__law_other_cell) (slots 2 ds) { nx := fun _ => Q (.va .non), rt := Q } := by
  have sc := sc__law_other_cell
  obtain ⟨a, b, c, m, n, i, j, rfl, ⟨hz, h1, h2, h3, h4⟩, hQ⟩ := hS
  refine ws_norm (ρ' := [_, _]) rfl ?_
  refine ws_one ?_
  refine ws_retE (ee_cal (C__law_cell_of) (hr.mono (by decide)) (ea_cons (ee_var 0 rfl) (ea_cons (ee_cal (C__law_vector) (hr.mono (by decide)) (ea_cons (ee_ix (ee_var 1 rfl) ee_int rfl rfl) (ea_cons (ee_ix (ee_var 1 rfl) ee_int rfl rfl) ea_nil)) (by exact ⟨_, _, rfl, trivial, rfl⟩)) (ea_cons (ee_cal (C__law_vector) (hr.mono (by decide)) (ea_cons (ee_ix (ee_var 1 rfl) ee_int rfl rfl) (ea_cons (ee_ix (ee_var 1 rfl) ee_int rfl rfl) ea_nil)) (by exact ⟨_, _, rfl, trivial, rfl⟩)) ea_nil))) (by exact ⟨_, _, _, _, _, _, _, rfl, ⟨hz, ⟨(rz_int h1).mono (by decide), (rz_int h3).mono (by decide)⟩, (rz_int h2).mono (by decide), (rz_int h4).mono (by decide)⟩, rfl⟩)) ?_
  walk_at "tg return"
theorem cal__law_other_cell (T : Txt K mg) (C__law_cell_of : Cal P w K mg base 5 "_law_cell_of" S__law_cell_of []) (C__law_vector : Cal P w K mg base 1 "_law_vector" S__law_vector []) : Cal P w K mg base 6 "_law_other_cell" S__law_other_cell [] :=
  cal_of (T.d__law_other_cell.fn (P := P) (w := w) (base := base) (S := S__law_other_cell) (k := 5) sc__law_other_cell (fun ds Q h => by obtain ⟨_, _, _, _, _, _, _, rfl, _⟩ := h; rfl) fun f cdv A outer s H hr ds Q hS => body__law_other_cell T C__law_cell_of C__law_vector hr ds Q hS) 0 (by decide) (fun G => .nil)
abbrev S__law_det : Spc := ⟨fun ds Q => ∃ m : D, ∃ a : Int, ∃ b : Int, ∃ c : Int, ∃ d : Int, ∃ r : List D, ds = [m] ∧ (m.items = some (.int a :: .int b :: .int c :: .int d :: r) ∧ Mz 200 a b c d) ∧ Q (.va (.int (a * d - b * c))), fun _ _ _ kk_ ⟨m, a, b, c, d, r, e_, p_, q_⟩ => ⟨m, a, b, c, d, r, e_, p_, kk_ _ q_⟩⟩

theorem sc__law_det : FnScope ["m"] ["m"] (defScope s__law_det) := ⟨rfl, rfl, rfl, by decide +kernel, rfl, by decide +kernel, by decide +kernel⟩
theorem body__law_det (T : Txt K mg)  {f : Addr} {cdv : Value} {A : Around} {outer : List Env} {s : Shared} {H : Hp} (hr : Room (0) (A.deeper (envOfC "_law_det" (defScope s__law_det) s.heap.objs.size f cdv))) (ds : List D) (Q : O → Prop) (hS : (S__law_det).S ds Q) :
    WSs (cxOf CX0 P w K mg base ["m"] "_law_det" (defScope s__law_det) f cdv A outer s H E0).nox noX (defBody s__law_det) (slots 1 ds) { nx := fun _ => Q (.va .non), rt := Q } := by
  have sc := sc__law_det
  obtain ⟨m, a, b, c, d, r, rfl, ⟨hm, ha, hb, hc, hd⟩, hQ⟩ := hS
  refine ws_norm (ρ' := [_]) rfl ?_
  refine ws_one ?_
  refine ws_retE (ee_sub (ee_mul (ee_ix (ee_var 0 rfl) ee_int (by exact hm) (by exact atI_at 0 rfl rfl)) (ee_ix (ee_var 0 rfl) ee_int (by exact hm) (by exact atI_at 3 rfl rfl)) (by exact Sz.mulE (by assumption) (by assumption))) (ee_mul (ee_ix (ee_var 0 rfl) ee_int (by exact hm) (by exact atI_at 1 rfl rfl)) (ee_ix (ee_var 0 rfl) ee_int (by exact hm) (by exact atI_at 2 rfl rfl)) (by exact Sz.mulE (by assumption) (by assumption)))) ?_
  walk_at "tg return"
theorem cal__law_det (T : Txt K mg)  : Cal P w K mg base 1 "_law_det" S__law_det [] :=
  cal_of (T.d__law_det.fn (P := P) (w := w) (base := base) (S := S__law_det) (k := 0) sc__law_det (fun ds Q h => by obtain ⟨_, _, _, _, _, _, rfl, _⟩ := h; rfl) fun f cdv A outer s H hr ds Q hS => body__law_det T  hr ds Q hS) 0 (by decide) (fun G => .nil)
theorem small_next {k : Nat} (h : Un (smallM k)) : (((List.range (k + 1)).map smallM).filter fun m => decide (Un m)).map Mq.D = (((List.range k).map smallM).filter fun m => decide (Un m)).map Mq.D ++ [(smallM k).D] := by
  rw [List.range_succ, List.map_append, List.filter_append, List.map_append]
  congr 1
  show (List.filter _ [smallM k]).map Mq.D = _
  rw [List.filter_cons_of_pos (p := fun m => decide (Un m)) (a := smallM k) (decide_eq_true h)]; rfl
theorem small_skip {k : Nat} (h : ¬ Un (smallM k)) : (((List.range (k + 1)).map smallM).filter fun m => decide (Un m)).map Mq.D = (((List.range k).map smallM).filter fun m => decide (Un m)).map Mq.D := by
  rw [List.range_succ, List.map_append, List.filter_append, List.map_append]
  show _ ++ (List.filter _ [smallM k]).map Mq.D = _
  rw [List.filter_cons_of_neg (p := fun m => decide (Un m)) (a := smallM k) (by rw [decide_eq_false h]; exact Bool.false_ne_true)]
  exact List.append_nil _
theorem small_lt (k : Nat) : ((((List.range k).map smallM).filter fun m => decide (Un m)).map Mq.D).length ≤ k := by
  rw [List.length_map]
  refine Nat.le_trans (List.length_filter_le _ _) ?_
  rw [List.length_map, List.length_range]; exact Nat.le_refl _
theorem smallM_sz {k : Nat} (hk : k < 81) : Sz 2 ((k : Int) % 3 - 1) ∧ Sz 2 ((k : Int) / 3 % 3 - 1) ∧ Sz 2 ((k : Int) / 9 % 3 - 1) ∧ Sz 2 ((k : Int) / 27 - 1) := by unfold Sz; omega
abbrev S__law_small_matrices : Spc := ⟨fun ds Q => ds = [] ∧ (True) ∧ Q (.ml (smallL.map Mq.D)), fun _ _ _ kk_ ⟨e_, p_, q_⟩ => ⟨e_, p_, kk_ _ q_⟩⟩

theorem sc__law_small_matrices : FnScope ["found", "k", "matrix"] [] (defScope s__law_small_matrices) := ⟨rfl, rfl, rfl, by decide +kernel, rfl, by decide +kernel, by decide +kernel⟩
theorem body__law_small_matrices (T : Txt K mg) (C__law_det : Cal P w K mg base 1 "_law_det" S__law_det []) {f : Addr} {cdv : Value} {A : Around} {outer : List Env} {s : Shared} {H : Hp} (hr : Room (1) (A.deeper (envOfC "_law_small_matrices" (defScope s__law_small_matrices) s.heap.objs.size f cdv))) (ds : List D) (Q : O → Prop) (hS : (S__law_small_matrices).S ds Q) :
    WSs (cxOf CX0 P w K mg base ["found", "k", "matrix"] "_law_small_matrices" (defScope s__law_small_matrices) f cdv A outer s H E0).nox noX (defBody s__law_small_matrices) (slots 3 ds) { nx := fun _ => Q (.va .non), rt := Q } := by
  have sc := sc__law_small_matrices
  obtain ⟨rfl, hp, hQ⟩ := hS
  refine ws_norm (ρ' := [_, _, _]) rfl ?_
  refine ws_cons ?_
  refine ws_setM 0 (eo_lst ea_nil) ?_ sc.nd
  refine ws_norm (ρ' := [_, _, _]) rfl ?_
  refine ws_cons ?_
  refine ws_forR (fun k ρ => ∃ l : List D, ρ = [.ml l, .un, .un] ∧ l = (((List.range k).map smallM).filter fun m => decide (Un m)).map Mq.D) T.m_range (ea_cons ee_int ea_nil) ?start3 nox_own ?turn3 ?fin3 (by decide)
  case start3 =>
    exact Up.of ⟨_, rfl, rfl⟩
  case turn3 =>
    intro k ρ hk hR
    obtain ⟨l, rfl, hl⟩ := hR
    obtain ⟨s1, s2, s3, s4⟩ := smallM_sz (k := k) (by omega)
    refine ⟨_, (at_name 1 sc.nd), ?_⟩
    refine ws_norm (ρ' := [_, _, _]) rfl ?_
    refine ws_cons ?_
    refine ws_setE 2 (ee_tup (ea_cons (ee_sub (ee_mod (ee_var 1 rfl) ee_int (by walk_at "tg mod")) ee_int) (ea_cons (ee_sub (ee_mod (ee_div (ee_var 1 rfl) ee_int (by walk_at "tg div")) ee_int (by walk_at "tg mod")) ee_int) (ea_cons (ee_sub (ee_mod (ee_div (ee_var 1 rfl) ee_int (by walk_at "tg div")) ee_int (by walk_at "tg mod")) ee_int) (ea_cons (ee_sub (ee_div (ee_var 1 rfl) ee_int (by walk_at "tg div")) ee_int) ea_nil))))) ?_ sc.nd
    refine ws_norm (ρ' := [_, _, _]) rfl ?_
    refine ws_one ?_
    refine ws_if (et_in (ee_cal (C__law_det) (hr.mono (by decide)) (ea_cons (ee_var 2 rfl) ea_nil) (by exact ⟨_, _, _, _, _, _, rfl, ⟨rfl, by walk_at "tg pre"⟩, rfl⟩)) (ee_lst (eo_lst (ea_cons ee_int (ea_cons (ee_neg ee_int) ea_nil)))) rfl) (fun h5 => ?_) (fun h5 => ?_)
    · skip
      rw [in_pm] at h5
      have hu : Un (smallM k) := of_decide_eq_true h5
      refine ws_one ?_
      refine ws_append 0 rfl (ee_var 2 rfl) (by rw [hl]; exact line_of (Nat.le_trans (small_lt k) (by omega))) ?_
      first | exact up_intro ⟨_, rfl, by rw [small_next hu, ← hl] <;> rfl⟩ (by walk_at "tg le") | exact up_intro ⟨_, rfl, by rw [small_skip hu, ← hl]⟩ (by walk_at "tg le")
    · skip
      rw [in_pm] at h5
      have hu : ¬ Un (smallM k) := of_decide_eq_false h5
      refine ws_nil ?_
      first | exact up_intro ⟨_, rfl, by rw [small_next hu, ← hl] <;> rfl⟩ (by walk_at "tg le") | exact up_intro ⟨_, rfl, by rw [small_skip hu, ← hl]⟩ (by walk_at "tg le")
  case fin3 =>
    intro ρ hR
    obtain ⟨l, rfl, hl⟩ := hR
    subst hl
    refine ws_one ?_
    refine ws_retM 0 rfl ?_
    walk_at "tg return"
theorem cal__law_small_matrices (T : Txt K mg) (C__law_det : Cal P w K mg base 1 "_law_det" S__law_det []) : Cal P w K mg base 2 "_law_small_matrices" S__law_small_matrices [] :=
  cal_of (T.d__law_small_matrices.fn (P := P) (w := w) (base := base) (S := S__law_small_matrices) (k := 1) sc__law_small_matrices (fun ds Q h => by obtain ⟨rfl, _⟩ := h; rfl) fun f cdv A outer s H hr ds Q hS => body__law_small_matrices T C__law_det hr ds Q hS) 0 (by decide) (fun G => .nil)
theorem aut_dec (a b c : Rat) (m : Mq) : decide (qf a b c m.a m.c = a ∧ bf a b c m.a m.c m.b m.d = b ∧ qf a b c m.b m.d = c) = decide (Aut a b c m) := by
  rw [Bool.eq_iff_iff, decide_eq_true_iff, decide_eq_true_iff]
  exact ⟨fun h => ⟨h.1, h.2.1, h.2.2⟩, fun h => ⟨h.f, h.h, h.g⟩⟩
theorem sm_sz {m : Mq} (h : Sm m) : Mz 2 m.a m.b m.c m.d := by
  obtain ⟨h1, h2, h3, h4⟩ := h
  unfold Mz Sz
  omega
abbrev S__law_keepers : Spc := ⟨fun ds Q => ∃ a : Rat, ∃ b : Rat, ∃ c : Rat, ds = [cl a b c] ∧ (Rz 25 a ∧ Rz 25 b ∧ Rz 25 c) ∧ Q (.ml ((keepL a b c).map Mq.D)), fun _ _ _ kk_ ⟨a, b, c, e_, p_, q_⟩ => ⟨a, b, c, e_, p_, kk_ _ q_⟩⟩

theorem sc__law_keepers : FnScope ["cell", "matrix"] ["cell"] (defScope s__law_keepers) := ⟨rfl, rfl, rfl, by decide +kernel, rfl, by decide +kernel, by decide +kernel⟩
theorem body__law_keepers (T : Txt K mg) (C__law_other_cell : Cal P w K mg base 6 "_law_other_cell" S__law_other_cell []) (C__law_small_matrices : Cal P w K mg base 2 "_law_small_matrices" S__law_small_matrices []) {f : Addr} {cdv : Value} {A : Around} {outer : List Env} {s : Shared} {H : Hp} (hr : Room (6) (A.deeper (envOfC "_law_keepers" (defScope s__law_keepers) s.heap.objs.size f cdv))) (ds : List D) (Q : O → Prop) (hS : (S__law_keepers).S ds Q) :
    WSs (cxOf CX0 P w K mg base ["cell", "matrix"] "_law_keepers" (defScope s__law_keepers) f cdv A outer s H E0).nox noX (defBody s__law_keepers) (slots 2 ds) { nx := fun _ => Q (.va .non), rt := Q } := by
  have sc := sc__law_keepers
  obtain ⟨a, b, c, rfl, ⟨ha, hb, hc⟩, hQ⟩ := hS
  refine ws_norm (ρ' := [_, _]) rfl ?_
  refine ws_one ?_
  refine ws_ret (P := fun o => o = .ml _) (eo_lc (f := fun _ d => match d with | .tup [.int p, .int q, .int r, .int s] => (if decide (Aut a b c ⟨p, q, r, s⟩) = true then some d else none) | _ => none) [("matrix", 1)] (ei_lst (ee_lst (eo_cal0 (C__law_small_matrices) (hr.mono (by decide)) (by exact ⟨rfl, (by walk_at "tg pre"), rfl⟩)))) sc.nd (blkOk_by (N := ["cell", "matrix"]) (sc := defScope s__law_keepers) (by decide +kernel)) (by rw [List.length_map]; exact len_ok3 (by decide +kernel)) (by intro k d hk; obtain ⟨hk', rfl⟩ := map_getK (f := Mq.D) (l := smallL) oneq hk; obtain ⟨s1, s2, s3, s4⟩ := sm_sz (small_sm (getD_mem (x := oneq) hk')).1; exact ⟨_, _, fun _ _ _ _ _ => (ab_name 1 (by decide) sc.nd), fun _ _ _ _ _ => (ets_one (et_eq hr.units (ee_cal (C__law_other_cell) (hr.mono (by decide)) (ea_cons (ee_var 0 rfl) (ea_cons (ee_var 1 rfl) ea_nil)) (by exact ⟨_, _, _, _, _, _, _, rfl, (by walk_at "tg pre"), rfl⟩)) (ee_var 0 rfl) (by walk_at "tg cmp") (by walk_at "tg cmp"))), fun ht => ⟨_, (if_pos (by rw [← aut_dec]; exact (cl_eqv _ _ _ _ _ _).symm.trans ht)), fun _ _ _ _ _ => (ee_var 1 rfl)⟩, fun hf => if_neg (fun z => by rw [← aut_dec] at z; exact Bool.noConfusion (hf.symm.trans ((cl_eqv _ _ _ _ _ _).trans z)))⟩)) ?_
  rintro _ rfl
  rw [pick_filter (f := Mq.D) (p := fun m => decide (Aut a b c m)) smallL 0 fun _ _ => rfl]; exact hQ
theorem cal__law_keepers (T : Txt K mg) (C__law_other_cell : Cal P w K mg base 6 "_law_other_cell" S__law_other_cell []) (C__law_small_matrices : Cal P w K mg base 2 "_law_small_matrices" S__law_small_matrices []) : Cal P w K mg base 7 "_law_keepers" S__law_keepers [] :=
  cal_of (T.d__law_keepers.fn (P := P) (w := w) (base := base) (S := S__law_keepers) (k := 6) sc__law_keepers (fun ds Q h => by obtain ⟨_, _, _, rfl, _⟩ := h; rfl) fun f cdv A outer s H hr ds Q hS => body__law_keepers T C__law_other_cell C__law_small_matrices hr ds Q hS) 0 (by decide) (fun G => .nil)
abbrev S__law_product : Spc := ⟨fun ds Q => ∃ a : Int, ∃ b : Int, ∃ c : Int, ∃ d : Int, ∃ r : List D, ∃ e : Int, ∃ f : Int, ∃ g : Int, ∃ h : Int, ∃ r2 : List D, ds = [.tup (.int a :: .int b :: .int c :: .int d :: r), .tup (.int e :: .int f :: .int g :: .int h :: r2)] ∧ (Mz 3000 a b c d ∧ Mz 3000 e f g h) ∧ Q (.va (mt (e * a + f * c) (e * b + f * d) (g * a + h * c) (g * b + h * d))), fun _ _ _ kk_ ⟨a, b, c, d, r, e, f, g, h, r2, e_, p_, q_⟩ => ⟨a, b, c, d, r, e, f, g, h, r2, e_, p_, kk_ _ q_⟩⟩

theorem sc__law_product : FnScope ["m", "n", "first"] ["m", "n"] (defScope s__law_product) := ⟨rfl, rfl, rfl, by decide +kernel, rfl, by decide +kernel, by decide +kernel⟩
theorem body__law_product (T : Txt K mg)  {f : Addr} {cdv : Value} {A : Around} {outer : List Env} {s : Shared} {H : Hp} (hr : Room (0) (A.deeper (envOfC "_law_product" (defScope s__law_product) s.heap.objs.size f cdv))) (ds : List D) (Q : O → Prop) (hS : (S__law_product).S ds Q) :
    WSs (cxOf CX0 P w K mg base ["m", "n", "first"] "_law_product" (defScope s__law_product) f cdv A outer s H E0).nox noX (defBody s__law_product) (slots 3 ds) { nx := fun _ => Q (.va .non), rt := Q } := by
  have sc := sc__law_product
  obtain ⟨a, b, c, d, r, e, f, g, h, r2, rfl, ⟨⟨ha, hb, hc, hd⟩, he, hf, hg, hh⟩, hQ⟩ := hS
  refine ws_norm (ρ' := [_, _, _]) rfl ?_
  refine ws_cons ?_
  refine ws_setE 2 (ee_tup (ea_cons (ee_add (ee_mul (ee_ix (ee_var 1 rfl) ee_int rfl (by exact atI_at 0 rfl rfl)) (ee_ix (ee_var 0 rfl) ee_int rfl (by exact atI_at 0 rfl rfl)) (by exact Sz.mulE (by assumption) (by assumption))) (ee_mul (ee_ix (ee_var 1 rfl) ee_int rfl (by exact atI_at 1 rfl rfl)) (ee_ix (ee_var 0 rfl) ee_int rfl (by exact atI_at 2 rfl rfl)) (by exact Sz.mulE (by assumption) (by assumption)))) (ea_cons (ee_add (ee_mul (ee_ix (ee_var 1 rfl) ee_int rfl (by exact atI_at 0 rfl rfl)) (ee_ix (ee_var 0 rfl) ee_int rfl (by exact atI_at 1 rfl rfl)) (by exact Sz.mulE (by assumption) (by assumption))) (ee_mul (ee_ix (ee_var 1 rfl) ee_int rfl (by exact atI_at 1 rfl rfl)) (ee_ix (ee_var 0 rfl) ee_int rfl (by exact atI_at 3 rfl rfl)) (by exact Sz.mulE (by assumption) (by assumption)))) ea_nil))) ?_ sc.nd
  refine ws_norm (ρ' := [_, _, _]) rfl ?_
  refine ws_one ?_
  refine ws_retE (ee_catT (ee_var 2 rfl) (ee_tup (ea_cons (ee_add (ee_mul (ee_ix (ee_var 1 rfl) ee_int rfl (by exact atI_at 2 rfl rfl)) (ee_ix (ee_var 0 rfl) ee_int rfl (by exact atI_at 0 rfl rfl)) (by exact Sz.mulE (by assumption) (by assumption))) (ee_mul (ee_ix (ee_var 1 rfl) ee_int rfl (by exact atI_at 3 rfl rfl)) (ee_ix (ee_var 0 rfl) ee_int rfl (by exact atI_at 2 rfl rfl)) (by exact Sz.mulE (by assumption) (by assumption)))) (ea_cons (ee_add (ee_mul (ee_ix (ee_var 1 rfl) ee_int rfl (by exact atI_at 2 rfl rfl)) (ee_ix (ee_var 0 rfl) ee_int rfl (by exact atI_at 1 rfl rfl)) (by exact Sz.mulE (by assumption) (by assumption))) (ee_mul (ee_ix (ee_var 1 rfl) ee_int rfl (by exact atI_at 3 rfl rfl)) (ee_ix (ee_var 0 rfl) ee_int rfl (by exact atI_at 3 rfl rfl)) (by exact Sz.mulE (by assumption) (by assumption)))) ea_nil))) (by walk_at "tg cat")) ?_
  walk_at "tg return"
theorem cal__law_product (T : Txt K mg)  : Cal P w K mg base 1 "_law_product" S__law_product [] :=
  cal_of (T.d__law_product.fn (P := P) (w := w) (base := base) (S := S__law_product) (k := 0) sc__law_product (fun ds Q h => by obtain ⟨_, _, _, _, _, _, _, _, _, _, rfl, _⟩ := h; rfl) fun f cdv A outer s H hr ds Q hS => body__law_product T  hr ds Q hS) 0 (by decide) (fun G => .nil)
abbrev S__law_reverse : Spc := ⟨fun ds Q => ∃ p : Int, ∃ q : Int, ∃ r : Int, ∃ s : Int, ds = [mt p q r s] ∧ (Mz 100 p q r s) ∧ Q (.va (mt ((p * s - q * r) * s) (0 - (p * s - q * r) * q) (0 - (p * s - q * r) * r) ((p * s - q * r) * p))), fun _ _ _ kk_ ⟨p, q, r, s, e_, p_, q_⟩ => ⟨p, q, r, s, e_, p_, kk_ _ q_⟩⟩

theorem sc__law_reverse : FnScope ["matrix", "sign"] ["matrix"] (defScope s__law_reverse) := ⟨rfl, rfl, rfl, by decide +kernel, rfl, by decide +kernel, by decide +kernel⟩
theorem body__law_reverse (T : Txt K mg) (C__law_det : Cal P w K mg base 1 "_law_det" S__law_det []) {f : Addr} {cdv : Value} {A : Around} {outer : List Env} {s : Shared} {H : Hp} (hr : Room (1) (A.deeper (envOfC "_law_reverse" (defScope s__law_reverse) s.heap.objs.size f cdv))) (ds : List D) (Q : O → Prop) (hS : (S__law_reverse).S ds Q) :
    WSs (cxOf CX0 P w K mg base ["matrix", "sign"] "_law_reverse" (defScope s__law_reverse) f cdv A outer s H E0).nox noX (defBody s__law_reverse) (slots 2 ds) { nx := fun _ => Q (.va .non), rt := Q } := by
  have sc := sc__law_reverse
  obtain ⟨p, q, r, s, rfl, ⟨hp, hq, hr', hs⟩, hQ⟩ := hS
  refine ws_norm (ρ' := [_, _]) rfl ?_
  have hz : Mz 200 p q r s := ⟨hp.mono (by decide), hq.mono (by decide), hr'.mono (by decide), hs.mono (by decide)⟩
  have hS := (hp.mul hs).sub (hq.mul hr')
  refine ws_cons ?_
  refine ws_setE 1 (ee_cal (C__law_det) (hr.mono (by decide)) (ea_cons (ee_var 0 rfl) ea_nil) (by exact ⟨_, _, _, _, _, _, rfl, ⟨rfl, hz⟩, rfl⟩)) ?_ sc.nd
  refine ws_norm (ρ' := [_, _]) rfl ?_
  refine ws_one ?_
  refine ws_retE (ee_tup (ea_cons (ee_mul (ee_var 1 rfl) (ee_ix (ee_var 0 rfl) ee_int rfl rfl) (by exact Sz.mulE (by assumption) (by assumption))) (ea_cons (ee_sub ee_int (ee_mul (ee_var 1 rfl) (ee_ix (ee_var 0 rfl) ee_int rfl rfl) (by exact Sz.mulE (by assumption) (by assumption)))) (ea_cons (ee_sub ee_int (ee_mul (ee_var 1 rfl) (ee_ix (ee_var 0 rfl) ee_int rfl rfl) (by exact Sz.mulE (by assumption) (by assumption)))) (ea_cons (ee_mul (ee_var 1 rfl) (ee_ix (ee_var 0 rfl) ee_int rfl rfl) (by exact Sz.mulE (by assumption) (by assumption))) ea_nil))))) ?_
  walk_at "tg return"
theorem cal__law_reverse (T : Txt K mg) (C__law_det : Cal P w K mg base 1 "_law_det" S__law_det []) : Cal P w K mg base 2 "_law_reverse" S__law_reverse [] :=
  cal_of (T.d__law_reverse.fn (P := P) (w := w) (base := base) (S := S__law_reverse) (k := 1) sc__law_reverse (fun ds Q h => by obtain ⟨_, _, _, _, rfl, _⟩ := h; rfl) fun f cdv A outer s H hr ds Q hS => body__law_reverse T C__law_det hr ds Q hS) 0 (by decide) (fun G => .nil)
def bigD : D → Bool
  | .tup (.int n :: _) => decide ((10 : Int) ^ (6 : Int).toNat < (if n < 0 then -n else n))
  | _ => false
def fbig (_ : Nat) (d : D) : Option D := if bigD d = true then some d else none
theorem pick_rq : ∀ (l : List Rat) (k : Nat), pick fbig k (l.map rq) = (l.filter fun q => bigD (rq q)).map rq
  | [], _ => rfl
  | q :: l, k => by
    rw [List.map_cons, List.filter_cons]
    show (match fbig k (rq q) with | some y => [y] | none => []) ++ pick fbig (k + 1) (l.map rq) = _
    rw [pick_rq l (k + 1)]
    unfold fbig
    by_cases h : bigD (rq q) = true
    · rw [if_pos h, if_pos h]; rfl
    · rw [if_neg h, if_neg h]; rfl
theorem plains_rqs : ∀ l : List Rat, D.plains (l.map rq) = true ∧ D.depths (l.map rq) ≤ 1
  | [] => ⟨rfl, Nat.zero_le _⟩
  | q :: l => by
    obtain ⟨h1, h2⟩ := plains_rqs l
    constructor
    · show (D.plain (rq q) && D.plains (l.map rq)) = true
      rw [h1]; rfl
    · show max (D.depth (rq q)) (D.depths (l.map rq)) ≤ 1
      have : D.depth (rq q) = 1 := rfl
      omega
theorem cmp_rqs (l : List Rat) : D.cmp (.lst (l.map rq)) = true := by
  obtain ⟨h1, h2⟩ := plains_rqs l
  show (D.plains (l.map rq) && decide (D.depths (l.map rq) + 1 ≤ 64)) = true
  rw [h1, decide_eq_true (by omega)]; rfl
theorem cmp_big (l : List Rat) : D.cmp (.lst (pick fbig 0 (l.map rq))) = true := by rw [pick_rq]; exact cmp_rqs _
theorem big_none {l : List Rat} (h : (!D.eqv (.lst (pick fbig 0 (l.map rq))) (.lst [])) = false) : ∀ q ∈ l, Sz 20 q.num := fun q hq => by
  rw [pick_rq] at h
  by_cases hb : bigD (rq q) = true
  · exfalso
    have hm : q ∈ l.filter fun q => bigD (rq q) := List.mem_filter.mpr ⟨hq, hb⟩
    generalize (l.filter fun q => bigD (rq q)) = l' at hm h
    cases l' with
    | nil => cases hm
    | cons x r => exact Bool.noConfusion (show true = false from h)
  · have hb' : ¬ ((10 : Int) ^ (6 : Int).toNat < (if q.num < 0 then -q.num else q.num)) := fun z => hb (decide_eq_true z)
    have e : (10 : Int) ^ (6 : Int).toNat = 1000000 := by decide
    rw [e] at hb'
    unfold Sz
    split at hb' <;> omega
theorem den_le {n d : Int} (h : d ≠ 0) : ((Rat.divInt n d).den : Int).natAbs ≤ d.natAbs := by
  obtain ⟨_, h2⟩ := fr_eq (rq_pos (Rat.divInt n d)) (rq_gcd _) h (rq_cross h)
  rw [← h2]; exact fD_le h
theorem den_of {T : Rat} {t d : Int} {k : Nat} (hd : 0 < d) (hs : Sz k d) (e : T * (d : Rat) = (t : Rat)) : Sz k (T.den : Int) := by
  have : Rat.divInt t d = T := rat_eq_div (by omega) e.symm
  have h := den_le (n := t) (show d ≠ 0 by omega)
  rw [this] at h
  exact hs.le h
theorem bf_den {a b c : Rat} {i j k : Nat} (ha : Sz i (a.den : Int)) (hb : Sz j (b.den : Int)) (hc : Sz k (c.den : Int)) (x y z w : Int) : Sz (i + j + k) ((bf a b c x y z w).den : Int) := by
  refine den_of (t := (a.num * b.den * c.den) * (x * z) + ((a.den * b.num * c.den) * (x * w + y * z) + (a.den * b.den * c.num) * (y * w))) (d := (a.den : Int) * b.den * c.den) (Int.mul_pos (Int.mul_pos (rq_pos a) (rq_pos b)) (rq_pos c)) ((ha.mul hb).mul hc) ?_
  unfold bf
  simp only [Rat.intCast_add, Rat.intCast_mul]
  rw [@rat_num a, @rat_num b, @rat_num c]
  grind
/-- the long axes so far -/
structure LA (a b c : Rat) (k : Nat) (p q r s : Int) : Prop where
  det : p * s - q * r = 1 ∨ p * s - q * r = -1
  z : Mz k p q r s
  tA : Rz 29 (qf a b c ((p * s - q * r) * s) (0 - (p * s - q * r) * r))
  tB : Rz 29 (bf a b c ((p * s - q * r) * s) (0 - (p * s - q * r) * r) (0 - (p * s - q * r) * q) ((p * s - q * r) * p))
  tC : Rz 29 (qf a b c (0 - (p * s - q * r) * q) ((p * s - q * r) * p))
theorem LA.mono {a b c : Rat} {j k : Nat} {p q r s : Int} (h : LA a b c j p q r s) (l : j ≤ k) : LA a b c k p q r s := ⟨h.det, h.z.mono l, h.tA, h.tB, h.tC⟩
theorem bf_1001 {a b c : Rat} : bf a b c 1 0 0 1 = b := by
  unfold bf
  have h1 : ((1 : Int) : Rat) = 1 := rfl
  have h0 : ((0 : Int) : Rat) = 0 := rfl
  rw [h1, h0]; grind
theorem la_start {a b c : Rat} (ha : Rz 25 a) (hb : Rz 25 b) (hc : Rz 25 c) : LA a b c 1 1 0 0 1 := by
  refine ⟨.inl (by decide), ⟨sz_lit rfl, sz_lit rfl, sz_lit rfl, sz_lit rfl⟩, ?_, ?_, ?_⟩
  · show Rz 29 (qf a b c 1 0); rw [qf_10]; exact ha.mono (by decide)
  · show Rz 29 (bf a b c 1 0 0 1); rw [bf_1001]; exact hb.mono (by decide)
  · show Rz 29 (qf a b c 0 1); rw [qf_01]; exact hc.mono (by decide)
theorem getD_some {α : Type} {l : List α} {x : α} {i m : Int} (hm : 0 < m) (h : m.toNat = l.length) : l[(i % m).toNat]? = some (l.getD (i % m).toNat x) := by
  have h1 := Int.emod_nonneg i (show m ≠ 0 by omega)
  have h2 := Int.emod_lt_of_pos i hm
  have : (i % m).toNat < l.length := by omega
  simp [List.getD, this]
theorem atI_map {α : Type} {f : α → D} {l : List α} {x : α} {i : Int} (h0 : 0 ≤ i) (h : l[i.toNat]? = some x) : atI (l.map f) i = some (f x) := by
  obtain ⟨n, rfl⟩ := Int.eq_ofNat_of_zero_le h0
  exact atI_nat (by rw [List.getElem?_map]; exact (congrArg (Option.map f) h))
theorem part_sz {n i : Int} : Sz 3 ([n % 13 - 6, 1 + n % 2, 2 - n % 4].getD (i % 3).toNat 0) := by
  have h := List.mem_of_getElem? (getD_some (l := [n % 13 - 6, 1 + n % 2, 2 - n % 4]) (x := 0) (i := i) (m := 3) (by decide) rfl)
  generalize [n % 13 - 6, 1 + n % 2, 2 - n % 4].getD (i % 3).toNat 0 = x at h
  simp only [List.mem_cons, List.not_mem_nil, or_false] at h
  unfold Sz
  omega
theorem longer_sz {k : Nat} {p q r s v : Int} (h : Mz k p q r s) (hv : Sz 3 v) : Mz (k + 4) (v * p + 1 * r) (v * q + 1 * s) (1 * p + 0 * r) (1 * q + 0 * s) := by
  obtain ⟨h1, h2, h3, h4⟩ := h
  rw [Int.one_mul, Int.one_mul, Int.one_mul, Int.one_mul, Int.zero_mul, Int.zero_mul, Int.add_zero, Int.add_zero]
  exact ⟨((hv.mul h1).add h3).mono (by omega), ((hv.mul h2).add h4).mono (by omega), h1.mono (by omega), h2.mono (by omega)⟩
theorem longer_det {p q r s v : Int} (h : p * s - q * r = 1 ∨ p * s - q * r = -1) : (v * p + 1 * r) * (1 * q + 0 * s) - (v * q + 1 * s) * (1 * p + 0 * r) = 1 ∨ (v * p + 1 * r) * (1 * q + 0 * s) - (v * q + 1 * s) * (1 * p + 0 * r) = -1 := by
  have e : (v * p + 1 * r) * (1 * q + 0 * s) - (v * q + 1 * s) * (1 * p + 0 * r) = -(p * s - q * r) := by grind
  omega
theorem rev_sz {p q r s : Int} (h : Mz 90 p q r s) (hd : p * s - q * r = 1 ∨ p * s - q * r = -1) : Mz 91 ((p * s - q * r) * s) (0 - (p * s - q * r) * q) (0 - (p * s - q * r) * r) ((p * s - q * r) * p) := by
  obtain ⟨h1, h2, h3, h4⟩ := h
  have n1 : ∀ {x : Int}, Sz 90 x → Sz 91 ((p * s - q * r) * x) ∧ Sz 91 (0 - (p * s - q * r) * x) := fun {x} hx => by
    rcases hd with e | e <;> rw [e]
    · exact ⟨by rw [Int.one_mul]; exact hx.mono (by decide), by rw [Int.one_mul, Int.zero_sub]; exact hx.neg.mono (by decide)⟩
    · exact ⟨by rw [Int.neg_one_mul]; exact hx.neg.mono (by decide), by rw [Int.neg_one_mul, Int.zero_sub, Int.neg_neg]; exact hx.mono (by decide)⟩
  exact ⟨(n1 h4).1, (n1 h2).2, (n1 h3).2, (n1 h1).1⟩
abbrev S__law_long_axes : Spc := ⟨fun ds Q => ∃ a : Rat, ∃ b : Rat, ∃ c : Rat, ∃ ns : List Int, ds = [cl a b c, .lst (ns.map .int)] ∧ ((Rz 25 a ∧ Rz 25 b ∧ Rz 25 c) ∧ (Sz 5 (a.den : Int) ∧ Sz 12 (b.den : Int) ∧ Sz 12 (c.den : Int)) ∧ 18 ≤ ns.length) ∧ ∀ o : O, (∃ p q r s : Int, o = .va (mt p q r s) ∧ LA a b c 90 p q r s) → Q o, fun _ _ _ kk_ ⟨a, b, c, ns, e_, p_, q_⟩ => ⟨a, b, c, ns, e_, p_, fun o h => kk_ _ (q_ o h)⟩⟩

theorem sc__law_long_axes : FnScope ["cell", "numbers", "matrix", "k", "part", "longer", "f"] ["cell", "numbers"] (defScope s__law_long_axes) := ⟨rfl, rfl, rfl, by decide +kernel, rfl, by decide +kernel, by decide +kernel⟩
theorem body__law_long_axes (T : Txt K mg) (C__law_other_cell : Cal P w K mg base 6 "_law_other_cell" S__law_other_cell []) (C__law_product : Cal P w K mg base 1 "_law_product" S__law_product []) (C__law_reverse : Cal P w K mg base 2 "_law_reverse" S__law_reverse []) {f : Addr} {cdv : Value} {A : Around} {outer : List Env} {s : Shared} {H : Hp} (hr : Room (6) (A.deeper (envOfC "_law_long_axes" (defScope s__law_long_axes) s.heap.objs.size f cdv))) (ds : List D) (Q : O → Prop) (hS : (S__law_long_axes).S ds Q) :
    WSs (cxOf CX0 P w K mg base ["cell", "numbers", "matrix", "k", "part", "longer", "f"] "_law_long_axes" (defScope s__law_long_axes) f cdv A outer s H E0).nox noX (defBody s__law_long_axes) (slots 7 ds) { nx := fun _ => Q (.va .non), rt := Q } := by
  have sc := sc__law_long_axes
  obtain ⟨a, b, c, ns, rfl, ⟨⟨ha, hb, hc⟩, hden, hn⟩, hQ⟩ := hS
  refine ws_norm (ρ' := [_, _, _, _, _, _, _]) rfl ?_
  refine ws_cons ?_
  refine ws_setE 2 (ee_tup (ea_cons ee_int (ea_cons ee_int (ea_cons ee_int (ea_cons ee_int ea_nil))))) ?_ sc.nd
  refine ws_norm (ρ' := [_, _, _, _, _, _, _]) rfl ?_
  refine ws_cons ?_
  refine ws_forR (fun k ρ => ∃ p q r s : Int, ρ = [.va (cl a b c), .va (.lst (ns.map .int)), .va (mt p q r s), .un, .un, .un, .un] ∧ LA a b c (4 * k + 1) p q r s) T.m_range (ea_cons (ee_mod (ee_ix (ee_var 1 rfl) ee_int rfl (by exact atI_lit 0 rfl (by omega))) ee_int (by walk_at "tg mod")) ea_nil) ?start3 nox_own ?turn3 ?fin3 (by omega)
  case start3 =>
    exact up_intro ⟨1, 0, 0, 1, rfl, la_start ha hb hc⟩ (by walk_at "tg le")
  case turn3 =>
    intro k ρ hk hR
    obtain ⟨p, q, r, s, rfl, hla⟩ := hR
    have hk17 := Int.emod_lt_of_pos (ns.getD 0 0) (show (0 : Int) < 17 by decide)
    refine ⟨_, (at_name 3 sc.nd), ?_⟩
    refine ws_norm (ρ' := [_, _, _, _, _, _, _]) rfl ?_
    refine ws_cons ?_
    refine ws_setE 4 (ee_ix (ee_lst (eo_lst (ea_cons (ee_sub (ee_mod (ee_ix (ee_var 1 rfl) (ee_add ee_int (ee_var 3 rfl)) rfl (by first | exact atI_lit 1 rfl (by omega) | exact atI_lit (2 + k) (by omega) (by omega))) ee_int (by walk_at "tg mod")) ee_int) (ea_cons (ee_add ee_int (ee_mod (ee_ix (ee_var 1 rfl) (ee_add ee_int (ee_var 3 rfl)) rfl (by first | exact atI_lit 1 rfl (by omega) | exact atI_lit (2 + k) (by omega) (by omega))) ee_int (by walk_at "tg mod"))) (ea_cons (ee_sub ee_int (ee_mod (ee_ix (ee_var 1 rfl) (ee_add ee_int (ee_var 3 rfl)) rfl (by first | exact atI_lit 1 rfl (by omega) | exact atI_lit (2 + k) (by omega) (by omega))) ee_int (by walk_at "tg mod"))) ea_nil))))) (ee_mod (ee_ix (ee_var 1 rfl) ee_int rfl (by first | exact atI_lit 1 rfl (by omega) | exact atI_lit (2 + k) (by omega) (by omega))) ee_int (by walk_at "tg mod")) rfl (by exact atI_map (f := D.int) (l := [ns.getD (2 + k) 0 % 13 - 6, 1 + ns.getD (2 + k) 0 % 2, 2 - ns.getD (2 + k) 0 % 4]) (Int.emod_nonneg _ (by decide)) (getD_some (x := 0) (by decide) rfl))) ?_ sc.nd
    refine ws_norm (ρ' := [_, _, _, _, _, _, _]) rfl ?_
    refine ws_abs 4 (fun d => ∃ v : Int, d = .int v ∧ Sz 3 v) rfl (⟨_, rfl, part_sz⟩) ?_
    rintro _ ⟨v, rfl, hv⟩
    have hlz := longer_sz hla.z hv
    have hld := longer_det (v := v) hla.det
    have hlz90 := hlz.mono (show 4 * k + 1 + 4 ≤ 90 by omega)
    have hrz := rev_sz hlz90 hld
    refine ws_norm (ρ' := [_, _, _, _, _, _, _]) rfl ?_
    refine ws_cons ?_
    refine ws_setE 5 (ee_cal (C__law_product) (hr.mono (by decide)) (ea_cons (ee_var 2 rfl) (ea_cons (ee_tup (ea_cons (ee_var 4 rfl) (ea_cons ee_int (ea_cons ee_int (ea_cons ee_int ea_nil))))) ea_nil)) (by exact ⟨_, _, _, _, _, _, _, _, _, _, rfl, ⟨hla.z.mono (by omega), hv.mono (by decide), sz_lit rfl, sz_lit rfl, sz_lit rfl⟩, rfl⟩)) ?_ sc.nd
    refine ws_norm (ρ' := [_, _, _, _, _, _, _]) rfl ?_
    refine ws_cons ?_
    refine ws_if (et_ne hr.units (ee_lst (eo_lc (f := fbig) [("f", 6)] (ei_tup (ee_cal (C__law_other_cell) (hr.mono (by decide)) (ea_cons (ee_var 0 rfl) (ea_cons (ee_cal (C__law_reverse) (hr.mono (by decide)) (ea_cons (ee_var 5 rfl) ea_nil) (by exact ⟨_, _, _, _, rfl, hlz90.mono (by decide), rfl⟩)) ea_nil)) (by exact ⟨_, _, _, _, _, _, _, rfl, ⟨⟨ha.mono (by decide), hb.mono (by decide), hc.mono (by decide)⟩, hrz.mono (by decide)⟩, rfl⟩))) sc.nd (blkOk_by (N := ["cell", "numbers", "matrix", "k", "part", "longer", "f"]) (sc := defScope s__law_long_axes) (by decide +kernel)) (by walk_at "tg size") (by intro k d hk; obtain ⟨hk', rfl⟩ := map_getK (f := rq) (l := [_, _, _]) 0 hk; exact ⟨_, _, fun _ _ _ _ _ => (ab_name 6 (by decide) sc.nd), fun _ _ _ _ _ => (ets_one (et_gt (ee_abs rfl T.m_abs (ea_cons (ee_ix (ee_var 6 rfl) ee_int rfl rfl) ea_nil)) (ee_pow ee_int ee_int (by exact ⟨by decide, by decide, by decide⟩)))), fun ht => ⟨_, if_pos ht, fun _ _ _ _ _ => (ee_var 6 rfl)⟩, fun hf => if_neg (fun z => Bool.noConfusion (hf.symm.trans z))⟩))) (ee_lst (eo_lst ea_nil)) (by exact cmp_big [_, _, _]) (by walk_at "tg cmp")) (fun h6 => ?_) (fun h6 => ?_)
    · skip
      refine ws_one ?_
      refine ws_break ?_
      refine ws_one ?_
      refine ws_retE (ee_var 2 rfl) ?_
      exact hQ _ ⟨_, _, _, _, rfl, hla.mono (by omega)⟩
    · skip
      have hnum := big_none (l := [_, _, _]) h6
      have hla2 : LA a b c (4 * (k + 1) + 1) (v * p + 1 * r) (v * q + 1 * s) (1 * p + 0 * r) (1 * q + 0 * s) := ⟨hld, hlz, ⟨hnum _ (by simp only [List.mem_cons]; exact .inl rfl) |>.mono (by decide), bf_den hden.1 hden.2.1 hden.2.2 _ _ _ _⟩, ⟨hnum _ (by simp only [List.mem_cons]; exact .inr (.inl rfl)) |>.mono (by decide), bf_den hden.1 hden.2.1 hden.2.2 _ _ _ _⟩, ⟨hnum _ (by simp only [List.mem_cons]; exact .inr (.inr (.inl rfl))) |>.mono (by decide), bf_den hden.1 hden.2.1 hden.2.2 _ _ _ _⟩⟩
      refine ws_nil ?_
      refine ws_one ?_
      refine ws_setE 2 (ee_var 5 rfl) ?_ sc.nd
      exact up_intro ⟨_, _, _, _, rfl, hla2⟩ (by walk_at "tg le")
  case fin3 =>
    intro ρ hR
    obtain ⟨p, q, r, s, rfl, hla⟩ := hR
    have hk17 := Int.emod_lt_of_pos (ns.getD 0 0) (show (0 : Int) < 17 by decide)
    refine ws_one ?_
    refine ws_retE (ee_var 2 rfl) ?_
    exact hQ _ ⟨_, _, _, _, rfl, hla.mono (by omega)⟩
theorem cal__law_long_axes (T : Txt K mg) (C__law_other_cell : Cal P w K mg base 6 "_law_other_cell" S__law_other_cell []) (C__law_product : Cal P w K mg base 1 "_law_product" S__law_product []) (C__law_reverse : Cal P w K mg base 2 "_law_reverse" S__law_reverse []) : Cal P w K mg base 7 "_law_long_axes" S__law_long_axes [] :=
  cal_of (T.d__law_long_axes.fn (P := P) (w := w) (base := base) (S := S__law_long_axes) (k := 6) sc__law_long_axes (fun ds Q h => by obtain ⟨_, _, _, _, rfl, _⟩ := h; rfl) fun f cdv A outer s H hr ds Q hS => body__law_long_axes T C__law_other_cell C__law_product C__law_reverse hr ds Q hS) 0 (by decide) (fun G => .nil)
theorem mod_range {x m : Int} (h : 0 < m) : 0 ≤ x % m ∧ x % m < m := ⟨Int.emod_nonneg _ (by omega), Int.emod_lt_of_pos _ h⟩
theorem all_snoc {P : Int → Prop} {ns : List Int} {x : Int} (h : ∀ y ∈ ns, P y) (hx : P x) : ∀ y ∈ ns ++ [x], P y := fun y hy => by
  rcases List.mem_append.mp hy with h' | h'
  · exact h y h'
  · rw [List.mem_singleton.mp h']; exact hx
theorem room_of {ns : List Int} {k : Nat} (h : ns.length = k) (hk : k < 1000) : (ns.map D.int).length < sizeLine := by
  rw [List.length_map, h]
  exact small1000 (by omega)
/-- the numbers of a cell, by both ways -/
def numA (cell : Int) : Nat → Int × List Int
  | 0 => (cell, [])
  | k + 1 => ((numA cell k).1 / 1000, (numA cell k).2 ++ [(numA cell k).1 % 1000])
def numB (cell : Int) : Nat → Int × List Int
  | 0 => (cell % 2147483647, [])
  | k + 1 => (((numB cell k).1 * 48271 + 69621 * ((k : Int) + 1)) % 2147483647, (numB cell k).2 ++ [((numB cell k).1 * 48271 + 69621 * ((k : Int) + 1)) % 2147483647 / 7 % 1000])
@[irreducible] def nums (cell : Int) (n : Nat) : List Int := if (10 : Int) ^ 18 ≤ cell then (numA cell n).2 else (numB cell n).2
theorem numA_ok (cell : Int) : ∀ n, (numA cell n).2.length = n ∧ ∀ x ∈ (numA cell n).2, 0 ≤ x ∧ x < 1000
  | 0 => ⟨rfl, fun x h => by cases h⟩
  | k + 1 => ⟨by show ((numA cell k).2 ++ [_]).length = k + 1; rw [List.length_append, (numA_ok cell k).1]; rfl, all_snoc (numA_ok cell k).2 (mod_range (by decide))⟩
theorem numB_ok (cell : Int) : ∀ n, (numB cell n).2.length = n ∧ ∀ x ∈ (numB cell n).2, 0 ≤ x ∧ x < 1000
  | 0 => ⟨rfl, fun x h => by cases h⟩
  | k + 1 => ⟨by show ((numB cell k).2 ++ [_]).length = k + 1; rw [List.length_append, (numB_ok cell k).1]; rfl, all_snoc (numB_ok cell k).2 (mod_range (by decide))⟩
theorem numB_m (cell : Int) : ∀ n, 0 ≤ (numB cell n).1 ∧ (numB cell n).1 < 2147483647
  | 0 => mod_range (by decide)
  | k + 1 => mod_range (by decide)
theorem nums_len (cell : Int) (n : Nat) : (nums cell n).length = n := by
  unfold nums; split
  · exact (numA_ok cell n).1
  · exact (numB_ok cell n).1
theorem nums_range (cell : Int) (n : Nat) : ∀ x ∈ nums cell n, 0 ≤ x ∧ x < 1000 := by
  unfold nums; split
  · exact (numA_ok cell n).2
  · exact (numB_ok cell n).2
theorem numA_end {cell : Int} {n : Nat} (h : (10 : Int) ^ 18 ≤ cell) : (numA cell n).2 = nums cell n := by unfold nums; rw [if_pos h]
theorem numB_end {cell : Int} {n : Nat} (h : ¬ (10 : Int) ^ 18 ≤ cell) : (numB cell n).2 = nums cell n := by unfold nums; rw [if_neg h]
abbrev S__law_numbers : Spc := ⟨fun ds Q => ∃ cell : Int, ∃ n : Nat, ds = [.int cell, .int (n : Int)] ∧ (n ≤ 1000) ∧ Q (.ml ((nums cell n).map .int)), fun _ _ _ kk_ ⟨cell, n, e_, p_, q_⟩ => ⟨cell, n, e_, p_, kk_ _ q_⟩⟩

theorem sc__law_numbers : FnScope ["cell", "count", "numbers", "k", "mixed"] ["cell", "count"] (defScope s__law_numbers) := ⟨rfl, rfl, rfl, by decide +kernel, rfl, by decide +kernel, by decide +kernel⟩
theorem body__law_numbers (T : Txt K mg)  {f : Addr} {cdv : Value} {A : Around} {outer : List Env} {s : Shared} {H : Hp} (hr : Room (0) (A.deeper (envOfC "_law_numbers" (defScope s__law_numbers) s.heap.objs.size f cdv))) (ds : List D) (Q : O → Prop) (hS : (S__law_numbers).S ds Q) :
    WSs (cxOf CX0 P w K mg base ["cell", "count", "numbers", "k", "mixed"] "_law_numbers" (defScope s__law_numbers) f cdv A outer s H E0).nox noX (defBody s__law_numbers) (slots 5 ds) { nx := fun _ => Q (.va .non), rt := Q } := by
  have sc := sc__law_numbers
  obtain ⟨cell, n, rfl, hn, hQ⟩ := hS
  refine ws_norm (ρ' := [_, _, _, _, _]) rfl ?_
  refine ws_cons ?_
  refine ws_setM 2 (eo_lst ea_nil) ?_ sc.nd
  refine ws_norm (ρ' := [_, _, _, _, _]) rfl ?_
  refine ws_cons ?_
  refine ws_if (et_ge (ee_var 0 rfl) (ee_pow ee_int ee_int (by exact ⟨by decide, by decide, by decide⟩))) (fun h3 => ?_) (fun h3 => ?_)
  · skip
    have hc : (10 : Int) ^ 18 ≤ cell := of_decide_eq_true h3
    refine ws_cons ?_
    refine ws_forR (fun k ρ => ρ = [.va (.int (numA cell k).1), .va (.int (n : Int)), .ml ((numA cell k).2.map .int), .un, .un]) T.m_range (ea_cons (ee_var 1 rfl) ea_nil) ?start4 nox_own ?turn4 ?fin4 (by omega)
    case start4 =>
      exact up_intro rfl (by walk_at "tg le")
    case turn4 =>
      intro k ρ hk hR
      subst hR
      refine ⟨_, (at_name 3 sc.nd), ?_⟩
      refine ws_norm (ρ' := [_, _, _, _, _]) rfl ?_
      refine ws_cons ?_
      refine ws_append 2 rfl (ee_mod (ee_toInt rfl T.m_int (ea_cons (ee_var 0 rfl) ea_nil)) ee_int (by walk_at "tg mod")) (by first | exact room_of (numA_ok cell k).1 (by omega) | exact room_of (numB_ok cell k).1 (by omega)) ?_
      refine ws_norm (ρ' := [_, _, _, _, _]) rfl ?_
      refine ws_one ?_
      refine ws_setE 0 (ee_div (ee_var 0 rfl) ee_int (by walk_at "tg div")) ?_ sc.nd
      rw [map_snoc]
      exact up_intro rfl (by walk_at "tg le")
    case fin4 =>
      intro ρ hR
      subst hR
      refine ws_one ?_
      refine ws_retM 2 rfl ?_
      rw [show ((n : Int)).toNat = n from Int.toNat_natCast n, numA_end hc]; exact hQ
  · skip
    have hc : ¬ (10 : Int) ^ 18 ≤ cell := of_decide_eq_false h3
    refine ws_nil ?_
    refine ws_cons ?_
    refine ws_setE 4 (ee_mod (ee_toInt rfl T.m_int (ea_cons (ee_var 0 rfl) ea_nil)) ee_int (by walk_at "tg mod")) ?_ sc.nd
    refine ws_norm (ρ' := [_, _, _, _, _]) rfl ?_
    refine ws_cons ?_
    refine ws_forR (fun k ρ => ρ = [.va (.int cell), .va (.int (n : Int)), .ml ((numB cell k).2.map .int), .un, .va (.int (numB cell k).1)]) T.m_range (ea_cons (ee_var 1 rfl) ea_nil) ?start9 nox_own ?turn9 ?fin9 (by omega)
    case start9 =>
      exact up_intro rfl (by walk_at "tg le")
    case turn9 =>
      intro k ρ hk hR
      subst hR
      have hm := numB_m cell k
      refine ⟨_, (at_name 3 sc.nd), ?_⟩
      refine ws_norm (ρ' := [_, _, _, _, _]) rfl ?_
      refine ws_cons ?_
      refine ws_setE 4 (ee_mod (ee_toInt rfl T.m_int (ea_cons (ee_add (ee_mul (ee_var 4 rfl) ee_int (by exact Sz.mulE (m := 31) (n := 16) (Sz.nn hm.1 (by omega)) (sz_lit rfl))) (ee_mul ee_int (ee_add (ee_var 3 rfl) ee_int) (by exact Sz.mulE (m := 17) (n := 31) (sz_lit rfl) (Sz.nn (by omega) (by omega))))) ea_nil)) ee_int (by walk_at "tg mod")) ?_ sc.nd
      refine ws_norm (ρ' := [_, _, _, _, _]) rfl ?_
      refine ws_one ?_
      refine ws_append 2 rfl (ee_mod (ee_div (ee_var 4 rfl) ee_int (by walk_at "tg div")) ee_int (by walk_at "tg mod")) (by first | exact room_of (numA_ok cell k).1 (by omega) | exact room_of (numB_ok cell k).1 (by omega)) ?_
      rw [map_snoc]
      exact up_intro rfl (by walk_at "tg le")
    case fin9 =>
      intro ρ hR
      subst hR
      refine ws_one ?_
      refine ws_retM 2 rfl ?_
      rw [show ((n : Int)).toNat = n from Int.toNat_natCast n, numB_end hc]; exact hQ
theorem cal__law_numbers (T : Txt K mg)  : Cal P w K mg base 1 "_law_numbers" S__law_numbers [] :=
  cal_of (T.d__law_numbers.fn (P := P) (w := w) (base := base) (S := S__law_numbers) (k := 0) sc__law_numbers (fun ds Q h => by obtain ⟨_, _, rfl, _⟩ := h; rfl) fun f cdv A outer s H hr ds Q hS => body__law_numbers T  hr ds Q hS) 0 (by decide) (fun G => .nil)
theorem same_bool (t : Bool) : (!D.eqv (.bl t) (.bl t)) = false := by cases t <;> rfl
abbrev S__law_same (n : Nat) : Spc := ⟨fun ds Q => ∃ d : D, ds = [d, d] ∧ (d.plain = true ∧ d.depth ≤ n) ∧ Q (.va (.bl true)), fun _ _ _ kk_ ⟨d, e_, p_, q_⟩ => ⟨d, e_, p_, kk_ _ q_⟩⟩
abbrev S8 : Spc := S__law_same 8
theorem sc__law_same : FnScope ["actual", "due", "k"] ["actual", "due"] (defScope s__law_same) := ⟨rfl, rfl, rfl, by decide +kernel, rfl, by decide +kernel, by decide +kernel⟩
theorem body__law_same (T : Txt K mg)  (n : Nat) (hrec : ∀ m, m < n → Cal P w K mg base (m + 1) "_law_same" (S__law_same m) []) {f : Addr} {cdv : Value} {A : Around} {outer : List Env} {s : Shared} {H : Hp} (hr : Room (n) (A.deeper (envOfC "_law_same" (defScope s__law_same) s.heap.objs.size f cdv))) (ds : List D) (Q : O → Prop) (hS : (S__law_same n).S ds Q) :
    WSs (cxOf CX0 P w K mg base ["actual", "due", "k"] "_law_same" (defScope s__law_same) f cdv A outer s H E0).nox noX (defBody s__law_same) (slots 3 ds) { nx := fun _ => Q (.va .non), rt := Q } := by
  have sc := sc__law_same
  obtain ⟨d, rfl, ⟨hp, hd⟩, hQ⟩ := hS
  have hty := tyN_plain hp
  refine ws_norm (ρ' := [_, _, _]) rfl ?_
  refine ws_cons ?_
  refine ws_if (et_isN (ee_var 1 rfl)) (fun h2 => ?_) (fun h2 => ?_)
  · skip
    have he : d.isN = true := h2
    refine ws_one ?_
    refine ws_retE (ee_isN (ee_var 0 rfl)) ?_
    rw [show d.isN = true from h2]; exact hQ
  · skip
    refine ws_nil ?_
    refine ws_cons ?_
    refine ws_if (EW.et (ew_or (et_val (ee_isA rfl T.m_isinstance (ea_cons (ee_var 1 rfl) (ea_cons (ee_ty rfl T.m_list bt_list) ea_nil)) (by decide) (by assumption))) (fun hv => (ew_or1 (et_val (ee_isA rfl T.m_isinstance (ea_cons (ee_var 1 rfl) (ea_cons (ee_ty rfl T.m_tuple bt_tuple) ea_nil)) (by decide) (by assumption))))))) (fun h4 => ?_) (fun h4 => ?_)
    · skip
      obtain ⟨is, hi, hpi, hdi⟩ := isA_items h4
      rw [hpi] at hp
      refine ws_cons ?_
      refine ws_if (EW.et (ew_or (et_ne hr.units (ee_isA rfl T.m_isinstance (ea_cons (ee_var 1 rfl) (ea_cons (ee_ty rfl T.m_list bt_list) ea_nil)) (by decide) (by assumption)) (ee_isA rfl T.m_isinstance (ea_cons (ee_var 0 rfl) (ea_cons (ee_ty rfl T.m_list bt_list) ea_nil)) (by decide) (by assumption)) (by rfl) (by rfl)) (fun hv => (ew_or1 (et_ne hr.units (ee_isA rfl T.m_isinstance (ea_cons (ee_var 1 rfl) (ea_cons (ee_ty rfl T.m_tuple bt_tuple) ea_nil)) (by decide) (by assumption)) (ee_isA rfl T.m_isinstance (ea_cons (ee_var 0 rfl) (ea_cons (ee_ty rfl T.m_tuple bt_tuple) ea_nil)) (by decide) (by assumption)) (by rfl) (by rfl)))))) (fun h5 => ?_) (fun h5 => ?_)
      · skip
        rw [same_bool, same_bool] at h5
        exact absurd h5 (by decide)
      · skip
        refine ws_nil ?_
        refine ws_cons ?_
        refine ws_if (et_neI hr.units (ee_len rfl T.m_len (ea_cons (ee_var 0 rfl) ea_nil) (by exact hi)) (ee_len rfl T.m_len (ea_cons (ee_var 1 rfl) ea_nil) (by exact hi))) (fun h7 => ?_) (fun h7 => ?_)
        · skip
          exact absurd h7 (by simp)
        · skip
          refine ws_nil ?_
          refine ws_len 1 rfl hi fun hline => ?_
          refine ws_cons ?_
          refine ws_forR (fun k ρ => ρ = [.va d, .va d, .un]) T.m_range (ea_cons (ee_len rfl T.m_len (ea_cons (ee_var 1 rfl) ea_nil) (by exact hi)) ea_nil) ?start9 nox_own ?turn9 ?fin9 (by exact line_lt hline)
          case start9 =>
            exact Up.of rfl
          case turn9 =>
            intro k ρ hk hR
            subst hR
            have hk' : k < is.length := by omega
            have hg := List.getElem?_eq_getElem hk'
            have hp' := plains_get hp hg
            have hd' := depths_get hg
            obtain ⟨m, rfl⟩ : ∃ m, n = m + 1 := ⟨n - 1, by omega⟩
            refine ⟨_, (at_name 2 sc.nd), ?_⟩
            refine ws_norm (ρ' := [_, _, _]) rfl ?_
            refine ws_one ?_
            refine ws_if (et_not (et_val (ee_cal (hrec m (by omega)) hr (ea_cons (ee_ix (ee_var 0 rfl) (ee_var 2 rfl) hi (atI_of hk')) (ea_cons (ee_ix (ee_var 1 rfl) (ee_var 2 rfl) hi (atI_of hk')) ea_nil)) (by exact ⟨_, rfl, ⟨hp', by omega⟩, rfl⟩)))) (fun h10 => ?_) (fun h10 => ?_)
            · skip
              exact absurd h10 (by decide)
            · skip
              refine ws_nil ?_
              exact up_intro rfl (by walk_at "tg le")
          case fin9 =>
            intro ρ hR
            subst hR
            refine ws_one ?_
            refine ws_retE ee_bl ?_
            walk_at "tg return"
    · skip
      have hd0 := isA_flat h4
      refine ws_nil ?_
      refine ws_cons ?_
      refine ws_if (EW.et (ew_or (et_ne hr.units (ee_isA rfl T.m_isinstance (ea_cons (ee_var 1 rfl) (ea_cons (ee_ty rfl T.m_bool bt_bool) ea_nil)) (by decide) (by assumption)) (ee_isA rfl T.m_isinstance (ea_cons (ee_var 0 rfl) (ea_cons (ee_ty rfl T.m_bool bt_bool) ea_nil)) (by decide) (by assumption)) (by walk_at "tg cmp") (by walk_at "tg cmp")) (fun hv => (ew_or1 (et_ne hr.units (ee_isA rfl T.m_isinstance (ea_cons (ee_var 1 rfl) (ea_cons (ee_ty rfl T.m_int bt_int) ea_nil)) (by decide) (by assumption)) (ee_isA rfl T.m_isinstance (ea_cons (ee_var 0 rfl) (ea_cons (ee_ty rfl T.m_int bt_int) ea_nil)) (by decide) (by assumption)) (by walk_at "tg cmp") (by walk_at "tg cmp")))))) (fun h13 => ?_) (fun h13 => ?_)
      · skip
        rw [same_bool, same_bool] at h13
        exact absurd h13 (by decide)
      · skip
        refine ws_nil ?_
        refine ws_one ?_
        refine ws_retE (ee_and (ee_eq hr.units (ee_isA rfl T.m_isinstance (ea_cons (ee_var 1 rfl) (ea_cons (ee_ty rfl T.m_str bt_str) ea_nil)) (by decide) (by assumption)) (ee_isA rfl T.m_isinstance (ea_cons (ee_var 0 rfl) (ea_cons (ee_ty rfl T.m_str bt_str) ea_nil)) (by decide) (by assumption)) (by rfl) (by rfl)) (fun hv => (ee_one (ee_eq hr.units (ee_var 0 rfl) (ee_var 1 rfl) (by unfold D.cmp; rw [hp, hd0]; rfl) (by unfold D.cmp; rw [hp, hd0]; rfl))))) ?_
        rw [eqv_self d hp, show D.eqv (.bl (d.isA "str")) (.bl (d.isA "str")) = true from eqv_self _ rfl]; exact hQ
theorem same_all (T : Txt K mg) (n : Nat) : Cal P w K mg base (n + 1) "_law_same" (S__law_same n) [] := by
  induction n using Nat.strongRecOn with
  | _ n ih => exact cal_of (T.d__law_same.fn (P := P) (w := w) (base := base) (S := S__law_same n) (k := n) sc__law_same (fun ds Q h => by obtain ⟨_, rfl, _⟩ := h; rfl) fun f cdv A outer s H hr ds Q hS => body__law_same T n ih hr ds Q hS) 0 (by decide) (fun G => .nil)
theorem cal__law_same (T : Txt K mg) : Cal P w K mg base 9 "_law_same" S8 [] := same_all T 8
def scA (ns : List Int) : Rat := Rat.divInt (1 + ns.getD 0 0 % 30) (1 + ns.getD 1 0 % 2)
def scE (ns : List Int) : Rat := Rat.divInt (1 + ns.getD 2 0 % 40) (1 + ns.getD 3 0 % 4)
def scC (ns : List Int) : Rat := if ns.getD 4 0 % 6 ∈ ([2, 4, 5] : List Int) then scA ns + scE ns else scA ns
def scH : Rat := Rat.divInt 1 2
def scT (ns : List Int) : Rat := Rat.divInt (1 + ns.getD 5 0 % 5) 12
def scB (ns : List Int) : Rat := if ns.getD 4 0 % 6 ∈ ([3, 5] : List Int) then scA ns * scT ns else if ns.getD 4 0 % 6 ∈ ([1, 4] : List Int) then scA ns * scH else 0
theorem scH_rq : rq scH = fr 1 2 := by
  rw [scH, ← rq_frac (by decide), show fN 1 2 = 1 by decide +kernel, show fD 1 2 = 2 by decide +kernel]
theorem scA_sz (ns : List Int) : Rz 5 (scA ns) := rz_divInt (by omega) (by unfold Sz; omega) (by unfold Sz; omega)
theorem scE_sz (ns : List Int) : Rz 6 (scE ns) := rz_divInt (by omega) (by unfold Sz; omega) (by unfold Sz; omega)
theorem scT_sz (ns : List Int) : Rz 5 (scT ns) := rz_divInt (by omega) (by unfold Sz; omega) (by unfold Sz; omega)
theorem scH_sz : Rz 5 scH := rz_divInt (by omega) (by unfold Sz; omega) (by unfold Sz; omega)
theorem scC_sz (ns : List Int) : Rz 12 (scC ns) := by
  unfold scC; split
  · exact (scA_sz ns).add (scE_sz ns)
  · exact (scA_sz ns).mono (by decide)
theorem rz_zero {k : Nat} (h : 1 ≤ k := by decide) : Rz k 0 := Rz.mono (k := 1) ⟨sz_lit rfl, sz_lit rfl⟩ h
theorem scB_sz (ns : List Int) : Rz 12 (scB ns) := by
  unfold scB; split
  · exact ((scA_sz ns).mul (scT_sz ns)).mono (by decide)
  · split
    · exact ((scA_sz ns).mul scH_sz).mono (by decide)
    · exact rz_zero
abbrev S__law_short_cell : Spc := ⟨fun ds Q => ∃ ns : List Int, ds = [.lst (ns.map .int)] ∧ (6 ≤ ns.length) ∧ Q (.va (cl (scA ns) (scB ns) (scC ns))), fun _ _ _ kk_ ⟨ns, e_, p_, q_⟩ => ⟨ns, e_, p_, kk_ _ q_⟩⟩

theorem sc__law_short_cell : FnScope ["numbers", "a", "d", "sort", "c", "b"] ["numbers"] (defScope s__law_short_cell) := ⟨rfl, rfl, rfl, by decide +kernel, rfl, by decide +kernel, by decide +kernel⟩
theorem body__law_short_cell (T : Txt K mg) (C__law_add : Cal P w K mg base 3 "_law_add" S__law_add []) (C__law_frac : Cal P w K mg base 2 "_law_frac" S__law_frac []) (C__law_mul : Cal P w K mg base 3 "_law_mul" S__law_mul []) {f : Addr} {cdv : Value} {A : Around} {outer : List Env} {s : Shared} {H : Hp} (hr : Room (3) (A.deeper (envOfC "_law_short_cell" (defScope s__law_short_cell) s.heap.objs.size f cdv))) (ds : List D) (Q : O → Prop) (hS : (S__law_short_cell).S ds Q) :
    WSs (cxOf CX0 P w K mg base ["numbers", "a", "d", "sort", "c", "b"] "_law_short_cell" (defScope s__law_short_cell) f cdv A outer s H E0).nox noX (defBody s__law_short_cell) (slots 6 ds) { nx := fun _ => Q (.va .non), rt := Q } := by
  have sc := sc__law_short_cell
  obtain ⟨ns, rfl, hn, hQ⟩ := hS
  refine ws_norm (ρ' := [_, _, _, _, _, _]) rfl ?_
  refine ws_cons ?_
  refine ws_setE 1 (ee_cal (C__law_frac) (hr.mono (by decide)) (ea_cons (ee_add ee_int (ee_mod (ee_ix (ee_var 0 rfl) ee_int rfl (by exact atI_lit 0 rfl (by omega))) ee_int (by walk_at "tg mod"))) (ea_cons (ee_add ee_int (ee_mod (ee_ix (ee_var 0 rfl) ee_int rfl (by exact atI_lit 1 rfl (by omega))) ee_int (by walk_at "tg mod"))) ea_nil)) (by exact ⟨_, _, rfl, ⟨by omega, (Sz.nn (n := 5) (by omega) (by omega)).mono (by decide)⟩, rfl⟩)) ?_ sc.nd
  refine ws_norm (ρ' := [_, _, _, _, _, _]) rfl ?_
  refine ws_cons ?_
  refine ws_setE 2 (ee_cal (C__law_frac) (hr.mono (by decide)) (ea_cons (ee_add ee_int (ee_mod (ee_ix (ee_var 0 rfl) ee_int rfl (by exact atI_lit 2 rfl (by omega))) ee_int (by walk_at "tg mod"))) (ea_cons (ee_add ee_int (ee_mod (ee_ix (ee_var 0 rfl) ee_int rfl (by exact atI_lit 3 rfl (by omega))) ee_int (by walk_at "tg mod"))) ea_nil)) (by exact ⟨_, _, rfl, ⟨by omega, (Sz.nn (n := 5) (by omega) (by omega)).mono (by decide)⟩, rfl⟩)) ?_ sc.nd
  refine ws_norm (ρ' := [_, _, _, _, _, _]) rfl ?_
  refine ws_cons ?_
  refine ws_setE 3 (ee_mod (ee_ix (ee_var 0 rfl) ee_int rfl (by exact atI_lit 4 rfl (by omega))) ee_int (by walk_at "tg mod")) ?_ sc.nd
  refine ws_norm (ρ' := [_, _, _, _, _, _]) rfl ?_
  refine ws_cons ?_
  refine ws_setE 4 (ee_var 1 rfl) ?_ sc.nd
  refine ws_norm (ρ' := [_, _, _, _, _, _]) rfl ?_
  refine ws_cons ?_
  refine ws_if (et_in (ee_var 3 rfl) (ee_lst (eo_lst (ea_cons ee_int (ea_cons ee_int (ea_cons ee_int ea_nil))))) rfl) (fun h6 => ?_) (fun h6 => ?_)
  · skip
    have m1 : ns.getD 4 0 % 6 ∈ ([2, 4, 5] : List Int) := of_decide_eq_true ((any_ints (ns := [2, 4, 5])).symm.trans h6)
    refine ws_one ?_
    refine ws_setE 4 (ee_cal (C__law_add) (hr.mono (by decide)) (ea_cons (ee_var 1 rfl) (ea_cons (ee_var 2 rfl) ea_nil)) (by exact ⟨scA ns, scE ns, rfl, ⟨(scA_sz ns).mono (by decide), (scE_sz ns).mono (by decide)⟩, rfl⟩)) ?_ sc.nd
    refine ws_norm (ρ' := [_, _, _, _, _, _]) rfl ?_
    refine ws_cons ?_
    refine ws_setE 5 (ee_tup (ea_cons ee_int (ea_cons ee_int ea_nil))) ?_ sc.nd
    refine ws_norm (ρ' := [_, _, _, _, _, _]) rfl ?_
    refine ws_cons ?_
    refine ws_if (et_in (ee_var 3 rfl) (ee_lst (eo_lst (ea_cons ee_int (ea_cons ee_int ea_nil)))) rfl) (fun h9 => ?_) (fun h9 => ?_)
    · skip
      have m2 : ns.getD 4 0 % 6 ∈ ([1, 4] : List Int) := of_decide_eq_true ((any_ints (ns := [1, 4])).symm.trans h9)
      refine ws_one ?_
      refine ws_setE 5 (ee_cal (C__law_mul) (hr.mono (by decide)) (ea_cons (ee_var 1 rfl) (ea_cons (ee_tup (ea_cons ee_int (ea_cons ee_int ea_nil))) ea_nil)) (by exact ⟨scA ns, scH, by rw [scH_rq]; rfl, ⟨(scA_sz ns).mono (by decide), scH_sz.mono (by decide)⟩, rfl⟩)) ?_ sc.nd
      refine ws_norm (ρ' := [_, _, _, _, _, _]) rfl ?_
      refine ws_cons ?_
      refine ws_if (et_in (ee_var 3 rfl) (ee_lst (eo_lst (ea_cons ee_int (ea_cons ee_int ea_nil)))) rfl) (fun h11 => ?_) (fun h11 => ?_)
      · skip
        have m3 : ns.getD 4 0 % 6 ∈ ([3, 5] : List Int) := of_decide_eq_true ((any_ints (ns := [3, 5])).symm.trans h11)
        refine ws_one ?_
        refine ws_setE 5 (ee_cal (C__law_mul) (hr.mono (by decide)) (ea_cons (ee_var 1 rfl) (ea_cons (ee_cal (C__law_frac) (hr.mono (by decide)) (ea_cons (ee_add ee_int (ee_mod (ee_ix (ee_var 0 rfl) ee_int rfl (by exact atI_lit 5 rfl (by omega))) ee_int (by walk_at "tg mod"))) (ea_cons ee_int ea_nil)) (by exact ⟨_, _, rfl, ⟨by omega, (Sz.nn (n := 5) (by omega) (by omega)).mono (by decide)⟩, rfl⟩)) ea_nil)) (by exact ⟨scA ns, scT ns, rfl, ⟨(scA_sz ns).mono (by decide), (scT_sz ns).mono (by decide)⟩, rfl⟩)) ?_ sc.nd
        refine ws_norm (ρ' := [_, _, _, _, _, _]) rfl ?_
        refine ws_one ?_
        refine ws_retE (ee_tup (ea_cons (ee_var 1 rfl) (ea_cons (ee_var 5 rfl) (ea_cons (ee_var 4 rfl) ea_nil)))) ?_
        first | (rw [scB, scC, if_pos m1, if_pos m3] at hQ; exact hQ) | (rw [scB, scC, if_neg m1, if_pos m3] at hQ; exact hQ) | (rw [scB, scC, if_pos m1, if_neg m3, if_pos m2] at hQ; exact hQ) | (rw [scB, scC, if_neg m1, if_neg m3, if_pos m2] at hQ; exact hQ) | (rw [scB, scC, if_pos m1, if_neg m3, if_neg m2] at hQ; exact hQ) | (rw [scB, scC, if_neg m1, if_neg m3, if_neg m2] at hQ; exact hQ)
      · skip
        have m3 : ¬ ns.getD 4 0 % 6 ∈ ([3, 5] : List Int) := of_decide_eq_false ((any_ints (ns := [3, 5])).symm.trans h11)
        refine ws_nil ?_
        refine ws_one ?_
        refine ws_retE (ee_tup (ea_cons (ee_var 1 rfl) (ea_cons (ee_var 5 rfl) (ea_cons (ee_var 4 rfl) ea_nil)))) ?_
        first | (rw [scB, scC, if_pos m1, if_pos m3] at hQ; exact hQ) | (rw [scB, scC, if_neg m1, if_pos m3] at hQ; exact hQ) | (rw [scB, scC, if_pos m1, if_neg m3, if_pos m2] at hQ; exact hQ) | (rw [scB, scC, if_neg m1, if_neg m3, if_pos m2] at hQ; exact hQ) | (rw [scB, scC, if_pos m1, if_neg m3, if_neg m2] at hQ; exact hQ) | (rw [scB, scC, if_neg m1, if_neg m3, if_neg m2] at hQ; exact hQ)
    · skip
      have m2 : ¬ ns.getD 4 0 % 6 ∈ ([1, 4] : List Int) := of_decide_eq_false ((any_ints (ns := [1, 4])).symm.trans h9)
      refine ws_nil ?_
      refine ws_cons ?_
      refine ws_if (et_in (ee_var 3 rfl) (ee_lst (eo_lst (ea_cons ee_int (ea_cons ee_int ea_nil)))) rfl) (fun h11 => ?_) (fun h11 => ?_)
      · skip
        have m3 : ns.getD 4 0 % 6 ∈ ([3, 5] : List Int) := of_decide_eq_true ((any_ints (ns := [3, 5])).symm.trans h11)
        refine ws_one ?_
        refine ws_setE 5 (ee_cal (C__law_mul) (hr.mono (by decide)) (ea_cons (ee_var 1 rfl) (ea_cons (ee_cal (C__law_frac) (hr.mono (by decide)) (ea_cons (ee_add ee_int (ee_mod (ee_ix (ee_var 0 rfl) ee_int rfl (by exact atI_lit 5 rfl (by omega))) ee_int (by walk_at "tg mod"))) (ea_cons ee_int ea_nil)) (by exact ⟨_, _, rfl, ⟨by omega, (Sz.nn (n := 5) (by omega) (by omega)).mono (by decide)⟩, rfl⟩)) ea_nil)) (by exact ⟨scA ns, scT ns, rfl, ⟨(scA_sz ns).mono (by decide), (scT_sz ns).mono (by decide)⟩, rfl⟩)) ?_ sc.nd
        refine ws_norm (ρ' := [_, _, _, _, _, _]) rfl ?_
        refine ws_one ?_
        refine ws_retE (ee_tup (ea_cons (ee_var 1 rfl) (ea_cons (ee_var 5 rfl) (ea_cons (ee_var 4 rfl) ea_nil)))) ?_
        first | (rw [scB, scC, if_pos m1, if_pos m3] at hQ; exact hQ) | (rw [scB, scC, if_neg m1, if_pos m3] at hQ; exact hQ) | (rw [scB, scC, if_pos m1, if_neg m3, if_pos m2] at hQ; exact hQ) | (rw [scB, scC, if_neg m1, if_neg m3, if_pos m2] at hQ; exact hQ) | (rw [scB, scC, if_pos m1, if_neg m3, if_neg m2] at hQ; exact hQ) | (rw [scB, scC, if_neg m1, if_neg m3, if_neg m2] at hQ; exact hQ)
      · skip
        have m3 : ¬ ns.getD 4 0 % 6 ∈ ([3, 5] : List Int) := of_decide_eq_false ((any_ints (ns := [3, 5])).symm.trans h11)
        refine ws_nil ?_
        refine ws_one ?_
        refine ws_retE (ee_tup (ea_cons (ee_var 1 rfl) (ea_cons (ee_var 5 rfl) (ea_cons (ee_var 4 rfl) ea_nil)))) ?_
        first | (rw [scB, scC, if_pos m1, if_pos m3] at hQ; exact hQ) | (rw [scB, scC, if_neg m1, if_pos m3] at hQ; exact hQ) | (rw [scB, scC, if_pos m1, if_neg m3, if_pos m2] at hQ; exact hQ) | (rw [scB, scC, if_neg m1, if_neg m3, if_pos m2] at hQ; exact hQ) | (rw [scB, scC, if_pos m1, if_neg m3, if_neg m2] at hQ; exact hQ) | (rw [scB, scC, if_neg m1, if_neg m3, if_neg m2] at hQ; exact hQ)
  · skip
    have m1 : ¬ ns.getD 4 0 % 6 ∈ ([2, 4, 5] : List Int) := of_decide_eq_false ((any_ints (ns := [2, 4, 5])).symm.trans h6)
    refine ws_nil ?_
    refine ws_cons ?_
    refine ws_setE 5 (ee_tup (ea_cons ee_int (ea_cons ee_int ea_nil))) ?_ sc.nd
    refine ws_norm (ρ' := [_, _, _, _, _, _]) rfl ?_
    refine ws_cons ?_
    refine ws_if (et_in (ee_var 3 rfl) (ee_lst (eo_lst (ea_cons ee_int (ea_cons ee_int ea_nil)))) rfl) (fun h9 => ?_) (fun h9 => ?_)
    · skip
      have m2 : ns.getD 4 0 % 6 ∈ ([1, 4] : List Int) := of_decide_eq_true ((any_ints (ns := [1, 4])).symm.trans h9)
      refine ws_one ?_
      refine ws_setE 5 (ee_cal (C__law_mul) (hr.mono (by decide)) (ea_cons (ee_var 1 rfl) (ea_cons (ee_tup (ea_cons ee_int (ea_cons ee_int ea_nil))) ea_nil)) (by exact ⟨scA ns, scH, by rw [scH_rq]; rfl, ⟨(scA_sz ns).mono (by decide), scH_sz.mono (by decide)⟩, rfl⟩)) ?_ sc.nd
      refine ws_norm (ρ' := [_, _, _, _, _, _]) rfl ?_
      refine ws_cons ?_
      refine ws_if (et_in (ee_var 3 rfl) (ee_lst (eo_lst (ea_cons ee_int (ea_cons ee_int ea_nil)))) rfl) (fun h11 => ?_) (fun h11 => ?_)
      · skip
        have m3 : ns.getD 4 0 % 6 ∈ ([3, 5] : List Int) := of_decide_eq_true ((any_ints (ns := [3, 5])).symm.trans h11)
        refine ws_one ?_
        refine ws_setE 5 (ee_cal (C__law_mul) (hr.mono (by decide)) (ea_cons (ee_var 1 rfl) (ea_cons (ee_cal (C__law_frac) (hr.mono (by decide)) (ea_cons (ee_add ee_int (ee_mod (ee_ix (ee_var 0 rfl) ee_int rfl (by exact atI_lit 5 rfl (by omega))) ee_int (by walk_at "tg mod"))) (ea_cons ee_int ea_nil)) (by exact ⟨_, _, rfl, ⟨by omega, (Sz.nn (n := 5) (by omega) (by omega)).mono (by decide)⟩, rfl⟩)) ea_nil)) (by exact ⟨scA ns, scT ns, rfl, ⟨(scA_sz ns).mono (by decide), (scT_sz ns).mono (by decide)⟩, rfl⟩)) ?_ sc.nd
        refine ws_norm (ρ' := [_, _, _, _, _, _]) rfl ?_
        refine ws_one ?_
        refine ws_retE (ee_tup (ea_cons (ee_var 1 rfl) (ea_cons (ee_var 5 rfl) (ea_cons (ee_var 4 rfl) ea_nil)))) ?_
        first | (rw [scB, scC, if_pos m1, if_pos m3] at hQ; exact hQ) | (rw [scB, scC, if_neg m1, if_pos m3] at hQ; exact hQ) | (rw [scB, scC, if_pos m1, if_neg m3, if_pos m2] at hQ; exact hQ) | (rw [scB, scC, if_neg m1, if_neg m3, if_pos m2] at hQ; exact hQ) | (rw [scB, scC, if_pos m1, if_neg m3, if_neg m2] at hQ; exact hQ) | (rw [scB, scC, if_neg m1, if_neg m3, if_neg m2] at hQ; exact hQ)
      · skip
        have m3 : ¬ ns.getD 4 0 % 6 ∈ ([3, 5] : List Int) := of_decide_eq_false ((any_ints (ns := [3, 5])).symm.trans h11)
        refine ws_nil ?_
        refine ws_one ?_
        refine ws_retE (ee_tup (ea_cons (ee_var 1 rfl) (ea_cons (ee_var 5 rfl) (ea_cons (ee_var 4 rfl) ea_nil)))) ?_
        first | (rw [scB, scC, if_pos m1, if_pos m3] at hQ; exact hQ) | (rw [scB, scC, if_neg m1, if_pos m3] at hQ; exact hQ) | (rw [scB, scC, if_pos m1, if_neg m3, if_pos m2] at hQ; exact hQ) | (rw [scB, scC, if_neg m1, if_neg m3, if_pos m2] at hQ; exact hQ) | (rw [scB, scC, if_pos m1, if_neg m3, if_neg m2] at hQ; exact hQ) | (rw [scB, scC, if_neg m1, if_neg m3, if_neg m2] at hQ; exact hQ)
    · skip
      have m2 : ¬ ns.getD 4 0 % 6 ∈ ([1, 4] : List Int) := of_decide_eq_false ((any_ints (ns := [1, 4])).symm.trans h9)
      refine ws_nil ?_
      refine ws_cons ?_
      refine ws_if (et_in (ee_var 3 rfl) (ee_lst (eo_lst (ea_cons ee_int (ea_cons ee_int ea_nil)))) rfl) (fun h11 => ?_) (fun h11 => ?_)
      · skip
        have m3 : ns.getD 4 0 % 6 ∈ ([3, 5] : List Int) := of_decide_eq_true ((any_ints (ns := [3, 5])).symm.trans h11)
        refine ws_one ?_
        refine ws_setE 5 (ee_cal (C__law_mul) (hr.mono (by decide)) (ea_cons (ee_var 1 rfl) (ea_cons (ee_cal (C__law_frac) (hr.mono (by decide)) (ea_cons (ee_add ee_int (ee_mod (ee_ix (ee_var 0 rfl) ee_int rfl (by exact atI_lit 5 rfl (by omega))) ee_int (by walk_at "tg mod"))) (ea_cons ee_int ea_nil)) (by exact ⟨_, _, rfl, ⟨by omega, (Sz.nn (n := 5) (by omega) (by omega)).mono (by decide)⟩, rfl⟩)) ea_nil)) (by exact ⟨scA ns, scT ns, rfl, ⟨(scA_sz ns).mono (by decide), (scT_sz ns).mono (by decide)⟩, rfl⟩)) ?_ sc.nd
        refine ws_norm (ρ' := [_, _, _, _, _, _]) rfl ?_
        refine ws_one ?_
        refine ws_retE (ee_tup (ea_cons (ee_var 1 rfl) (ea_cons (ee_var 5 rfl) (ea_cons (ee_var 4 rfl) ea_nil)))) ?_
        first | (rw [scB, scC, if_pos m1, if_pos m3] at hQ; exact hQ) | (rw [scB, scC, if_neg m1, if_pos m3] at hQ; exact hQ) | (rw [scB, scC, if_pos m1, if_neg m3, if_pos m2] at hQ; exact hQ) | (rw [scB, scC, if_neg m1, if_neg m3, if_pos m2] at hQ; exact hQ) | (rw [scB, scC, if_pos m1, if_neg m3, if_neg m2] at hQ; exact hQ) | (rw [scB, scC, if_neg m1, if_neg m3, if_neg m2] at hQ; exact hQ)
      · skip
        have m3 : ¬ ns.getD 4 0 % 6 ∈ ([3, 5] : List Int) := of_decide_eq_false ((any_ints (ns := [3, 5])).symm.trans h11)
        refine ws_nil ?_
        refine ws_one ?_
        refine ws_retE (ee_tup (ea_cons (ee_var 1 rfl) (ea_cons (ee_var 5 rfl) (ea_cons (ee_var 4 rfl) ea_nil)))) ?_
        first | (rw [scB, scC, if_pos m1, if_pos m3] at hQ; exact hQ) | (rw [scB, scC, if_neg m1, if_pos m3] at hQ; exact hQ) | (rw [scB, scC, if_pos m1, if_neg m3, if_pos m2] at hQ; exact hQ) | (rw [scB, scC, if_neg m1, if_neg m3, if_pos m2] at hQ; exact hQ) | (rw [scB, scC, if_pos m1, if_neg m3, if_neg m2] at hQ; exact hQ) | (rw [scB, scC, if_neg m1, if_neg m3, if_neg m2] at hQ; exact hQ)
theorem cal__law_short_cell (T : Txt K mg) (C__law_add : Cal P w K mg base 3 "_law_add" S__law_add []) (C__law_frac : Cal P w K mg base 2 "_law_frac" S__law_frac []) (C__law_mul : Cal P w K mg base 3 "_law_mul" S__law_mul []) : Cal P w K mg base 4 "_law_short_cell" S__law_short_cell [] :=
  cal_of (T.d__law_short_cell.fn (P := P) (w := w) (base := base) (S := S__law_short_cell) (k := 3) sc__law_short_cell (fun ds Q h => by obtain ⟨_, rfl, _⟩ := h; rfl) fun f cdv A outer s H hr ds Q hS => body__law_short_cell T C__law_add C__law_frac C__law_mul hr ds Q hS) 0 (by decide) (fun G => .nil)
def wcF (ns : List Int) : Rat := if 0 < ns.getD 6 0 % 3 then 1 else ((1 + ns.getD 7 0 * 5 : Int) : Rat)
theorem sc_all {ns : List Int} {k : Nat} (hk : k < 3) : Rz 20 ([scA ns, scB ns, scC ns].getD k 0) := by
  match k, hk with
  | 0, _ => exact (scA_sz ns).mono (by decide)
  | 1, _ => exact (scB_sz ns).mono (by decide)
  | 2, _ => exact (scC_sz ns).mono (by decide)
theorem wc_num {ns : List Int} (hn : 8 ≤ ns.length) (h : ∀ x ∈ ns, 0 ≤ x ∧ x < 1000) : Sz 13 (1 + ns.getD 7 0 * 5) := by
  have := getD_range (k := 7) h (by omega)
  unfold Sz; omega
abbrev S__law_wide_cell : Spc := ⟨fun ds Q => ∃ ns : List Int, ds = [.lst (ns.map .int)] ∧ (8 ≤ ns.length ∧ ∀ x ∈ ns, 0 ≤ x ∧ x < 1000) ∧ Q (.va (cl (scA ns * wcF ns) (scB ns * wcF ns) (scC ns * wcF ns))), fun _ _ _ kk_ ⟨ns, e_, p_, q_⟩ => ⟨ns, e_, p_, kk_ _ q_⟩⟩

theorem sc__law_wide_cell : FnScope ["numbers", "cell", "f"] ["numbers"] (defScope s__law_wide_cell) := ⟨rfl, rfl, rfl, by decide +kernel, rfl, by decide +kernel, by decide +kernel⟩
theorem body__law_wide_cell (T : Txt K mg) (C__law_mul : Cal P w K mg base 3 "_law_mul" S__law_mul []) (C__law_short_cell : Cal P w K mg base 4 "_law_short_cell" S__law_short_cell []) {f : Addr} {cdv : Value} {A : Around} {outer : List Env} {s : Shared} {H : Hp} (hr : Room (4) (A.deeper (envOfC "_law_wide_cell" (defScope s__law_wide_cell) s.heap.objs.size f cdv))) (ds : List D) (Q : O → Prop) (hS : (S__law_wide_cell).S ds Q) :
    WSs (cxOf CX0 P w K mg base ["numbers", "cell", "f"] "_law_wide_cell" (defScope s__law_wide_cell) f cdv A outer s H E0).nox noX (defBody s__law_wide_cell) (slots 3 ds) { nx := fun _ => Q (.va .non), rt := Q } := by
  have sc := sc__law_wide_cell
  obtain ⟨ns, rfl, ⟨hn, hns⟩, hQ⟩ := hS
  refine ws_norm (ρ' := [_, _, _]) rfl ?_
  refine ws_cons ?_
  refine ws_setE 1 (ee_cal (C__law_short_cell) (hr.mono (by decide)) (ea_cons (ee_var 0 rfl) ea_nil) (by exact ⟨_, rfl, by omega, rfl⟩)) ?_ sc.nd
  refine ws_norm (ρ' := [_, _, _]) rfl ?_
  refine ws_cons ?_
  refine ws_if (et_gt (ee_mod (ee_ix (ee_var 0 rfl) ee_int rfl (by exact atI_lit 6 rfl (by omega))) ee_int (by walk_at "tg mod")) ee_int) (fun h3 => ?_) (fun h3 => ?_)
  · skip
    refine ws_one ?_
    refine ws_retE (ee_var 1 rfl) ?_
    rw [wcF, if_pos (of_decide_eq_true h3), Rat.mul_one, Rat.mul_one, Rat.mul_one] at hQ; exact hQ
  · skip
    refine ws_nil ?_
    refine ws_one ?_
    refine ws_retE (ee_tuple rfl T.m_tuple (ea_cons (ee_lst (eo_lc (f := fun k _ => some (rq ([scA ns, scB ns, scC ns].getD k 0 * ((1 + ns.getD 7 0 * 5 : Int) : Rat)))) [("f", 2)] (ei_tup (ee_var 1 rfl)) sc.nd (blkOk_by (N := ["numbers", "cell", "f"]) (sc := defScope s__law_wide_cell) (by decide +kernel)) (by walk_at "tg size") (by intro k d hk; obtain ⟨hk', rfl⟩ := map_getK (f := rq) (l := [scA ns, scB ns, scC ns]) 0 hk; exact ⟨_, _, fun _ _ _ _ _ => (ab_name 2 (by decide) sc.nd), fun _ _ _ _ _ => ets_nil, fun ht => ⟨_, rfl, fun _ _ _ _ _ => (ee_cal (C__law_mul) (hr.mono (by decide)) (ea_cons (ee_var 2 rfl) (ea_cons (ee_tup (ea_cons (ee_add ee_int (ee_mul (ee_ix (ee_var 0 rfl) ee_int rfl (by exact atI_lit 7 rfl (by omega))) ee_int (by exact Sz.mulE (m := 10) (n := 3) (by have := getD_range (k := 7) hns (by omega); unfold Sz; omega) (sz_lit rfl)))) (ea_cons ee_int ea_nil))) ea_nil)) (by exact ⟨_, ((1 + ns.getD 7 0 * 5 : Int) : Rat), rfl, ⟨(sc_all hk').mono (by decide), (rz_int (wc_num hn hns)).mono (by decide)⟩, rfl⟩))⟩, fun hf => absurd hf (by decide)⟩))) ea_nil) rfl) ?_
    rw [wcF, if_neg (of_decide_eq_false h3)] at hQ; exact hQ
theorem cal__law_wide_cell (T : Txt K mg) (C__law_mul : Cal P w K mg base 3 "_law_mul" S__law_mul []) (C__law_short_cell : Cal P w K mg base 4 "_law_short_cell" S__law_short_cell []) : Cal P w K mg base 5 "_law_wide_cell" S__law_wide_cell [] :=
  cal_of (T.d__law_wide_cell.fn (P := P) (w := w) (base := base) (S := S__law_wide_cell) (k := 4) sc__law_wide_cell (fun ds Q h => by obtain ⟨_, rfl, _⟩ := h; rfl) fun f cdv A outer s H hr ds Q hS => body__law_wide_cell T C__law_mul C__law_short_cell hr ds Q hS) 0 (by decide) (fun G => .nil)
abbrev S_common_divisor : Spc := ⟨fun ds Q => ∃ a : Int, ∃ b : Int, ds = [.int a, .int b] ∧ (True) ∧ Q (.va (.int (Int.gcd a b))), fun _ _ _ kk_ ⟨a, b, e_, p_, q_⟩ => ⟨a, b, e_, p_, kk_ _ q_⟩⟩

theorem sc_common_divisor : FnScope ["a", "b"] ["a", "b"] (defScope s_common_divisor) := ⟨rfl, rfl, rfl, by decide +kernel, rfl, by decide +kernel, by decide +kernel⟩
theorem body_common_divisor (T : Txt K mg)  {f : Addr} {cdv : Value} {A : Around} {outer : List Env} {s : Shared} {H : Hp} (hr : Room (0) (A.deeper (envOfC "common_divisor" (defScope s_common_divisor) s.heap.objs.size f cdv))) (ds : List D) (Q : O → Prop) (hS : (S_common_divisor).S ds Q) :
    WSs (cxOf CX0 P w K mg base ["a", "b"] "common_divisor" (defScope s_common_divisor) f cdv A outer s H E0).nox noX (defBody s_common_divisor) (slots 2 ds) { nx := fun _ => Q (.va .non), rt := Q } := by
  have sc := sc_common_divisor
  obtain ⟨a, b, rfl, hp, hQ⟩ := hS
  refine ws_norm (ρ' := [_, _]) rfl ?_
  refine ws_cons ?_
  refine ws_setE 0 (ee_abs rfl T.m_abs (ea_cons (ee_var 0 rfl) ea_nil)) ?_ sc.nd
  refine ws_norm (ρ' := [_, _]) rfl ?_
  rw [natAbs_if]
  refine ws_cons ?_
  refine ws_setE 1 (ee_abs rfl T.m_abs (ea_cons (ee_var 1 rfl) ea_nil)) ?_ sc.nd
  refine ws_norm (ρ' := [_, _]) rfl ?_
  rw [natAbs_if]
  refine ws_cons ?_
  refine ws_while (fun m ρ => ∃ x y : Nat, ρ = [.va (.int x), .va (.int y)] ∧ Nat.gcd x y = Int.gcd a b ∧ m = y) (b.natAbs) ?start4 nox_own ?turn4
  case start4 =>
    exact Up.of ⟨a.natAbs, b.natAbs, rfl, rfl, rfl⟩
  case turn4 =>
    rintro m ρ ⟨x, y, rfl, hg, rfl⟩
    refine ⟨_, (et_gt (ee_var 1 rfl) ee_int), fun ht => ?_, fun hf => ?_⟩
    · skip
      have hy : 0 < (m : Int) := of_decide_eq_true ht
      refine ws_one ?_
      refine ws_par 0 1 (ea_cons (ee_var 1 rfl) (ea_cons (ee_mod (ee_var 0 rfl) (ee_var 1 rfl) (by walk_at "tg mod")) ea_nil)) ?_ sc.nd
      exact ⟨x % m, Nat.mod_lt _ (by omega), up_intro ⟨m, x % m, rfl, (gcd_turn x m).trans hg, rfl⟩ (by walk_at "tg le")⟩
    · skip
      have hy : ¬ 0 < (m : Int) := of_decide_eq_false hf
      obtain rfl : m = 0 := by omega
      rw [Nat.gcd_zero_right] at hg
      subst hg
      refine ws_one ?_
      refine ws_retE (ee_var 0 rfl) ?_
      walk_at "tg return"
theorem cal_common_divisor (T : Txt K mg)  : Cal P w K mg base 1 "common_divisor" S_common_divisor [] :=
  cal_of (T.d_common_divisor.fn (P := P) (w := w) (base := base) (S := S_common_divisor) (k := 0) sc_common_divisor (fun ds Q h => by obtain ⟨_, _, rfl, _⟩ := h; rfl) fun f cdv A outer s H hr ds Q hS => body_common_divisor T  hr ds Q hS) 0 (by decide) (fun G => .nil)
abbrev S_fraction : Spc := ⟨fun ds Q => ∃ n : Int, ∃ d : Int, ds = [.int n, .int d] ∧ (d ≠ 0 ∧ Sz 4999 d) ∧ Q (.va (rq (Rat.divInt n d))), fun _ _ _ kk_ ⟨n, d, e_, p_, q_⟩ => ⟨n, d, e_, p_, kk_ _ q_⟩⟩

theorem sc_fraction : FnScope ["n", "d", "g"] ["n", "d"] (defScope s_fraction) := ⟨rfl, rfl, rfl, by decide +kernel, rfl, by decide +kernel, by decide +kernel⟩
theorem body_fraction (T : Txt K mg) (C_common_divisor : Cal P w K mg base 1 "common_divisor" S_common_divisor []) {f : Addr} {cdv : Value} {A : Around} {outer : List Env} {s : Shared} {H : Hp} (hr : Room (1) (A.deeper (envOfC "fraction" (defScope s_fraction) s.heap.objs.size f cdv))) (ds : List D) (Q : O → Prop) (hS : (S_fraction).S ds Q) :
    WSs (cxOf CX0 P w K mg base ["n", "d", "g"] "fraction" (defScope s_fraction) f cdv A outer s H E0).nox noX (defBody s_fraction) (slots 3 ds) { nx := fun _ => Q (.va .non), rt := Q } := by
  have sc := sc_fraction
  obtain ⟨n, d, rfl, ⟨hd, hsz⟩, hQ⟩ := hS
  refine ws_norm (ρ' := [_, _, _]) rfl ?_
  rw [← rq_frac hd] at hQ
  have hg := fg_ne (n := n) hd
  have hgs := fg_sz (n := n) hd hsz
  refine ws_cons ?_
  refine ws_setE 2 (ee_cal (C_common_divisor) (hr.mono (by decide)) (ea_cons (ee_var 0 rfl) (ea_cons (ee_var 1 rfl) ea_nil)) (by exact ⟨_, _, rfl, trivial, rfl⟩)) ?_ sc.nd
  refine ws_norm (ρ' := [_, _, _]) rfl ?_
  refine ws_cons ?_
  refine ws_if (et_lt (ee_var 1 rfl) ee_int) (fun h3 => ?_) (fun h3 => ?_)
  · skip
    have hd0 : d < 0 := of_decide_eq_true h3
    have e : fg n d = -(Int.gcd n d : Int) := if_pos hd0
    refine ws_one ?_
    refine ws_setE 2 (ee_neg (ee_var 2 rfl)) ?_ sc.nd
    refine ws_norm (ρ' := [_, _, _]) rfl ?_
    refine ws_one ?_
    refine ws_retE (ee_tup (ea_cons (ee_fdiv (ee_var 0 rfl) (ee_var 2 rfl) (by first | (rw [← e]; exact hgs.div hg) | (rw [Int.zero_sub, ← e]; exact hgs.div hg))) (ea_cons (ee_fdiv (ee_var 1 rfl) (ee_var 2 rfl) (by first | (rw [← e]; exact hgs.div hg) | (rw [Int.zero_sub, ← e]; exact hgs.div hg))) ea_nil))) ?_
    first | (rw [← e]; exact hQ) | (rw [Int.zero_sub, ← e]; exact hQ)
  · skip
    have hd0 : ¬ d < 0 := of_decide_eq_false h3
    have e : fg n d = (Int.gcd n d : Int) := if_neg hd0
    refine ws_nil ?_
    refine ws_one ?_
    refine ws_retE (ee_tup (ea_cons (ee_fdiv (ee_var 0 rfl) (ee_var 2 rfl) (by first | (rw [← e]; exact hgs.div hg) | (rw [Int.zero_sub, ← e]; exact hgs.div hg))) (ea_cons (ee_fdiv (ee_var 1 rfl) (ee_var 2 rfl) (by first | (rw [← e]; exact hgs.div hg) | (rw [Int.zero_sub, ← e]; exact hgs.div hg))) ea_nil))) ?_
    first | (rw [← e]; exact hQ) | (rw [Int.zero_sub, ← e]; exact hQ)
theorem cal_fraction_1 (T : Txt K mg) (C_common_divisor : Cal P w K mg base 1 "common_divisor" S_common_divisor []) : Cal P w K mg base 2 "fraction" S_fraction [.int 1] :=
  cal_of (T.d_fraction.fn (P := P) (w := w) (base := base) (S := S_fraction) (k := 1) sc_fraction (fun ds Q h => by obtain ⟨_, _, rfl, _⟩ := h; rfl) fun f cdv A outer s H hr ds Q hS => body_fraction T C_common_divisor hr ds Q hS) 0 (by decide) (fun G => (.cons (Rep.int _) .nil))
theorem cal_fraction (T : Txt K mg) (C_common_divisor : Cal P w K mg base 1 "common_divisor" S_common_divisor []) : Cal P w K mg base 2 "fraction" S_fraction [] :=
  cal_of (T.d_fraction.fn (P := P) (w := w) (base := base) (S := S_fraction) (k := 1) sc_fraction (fun ds Q h => by obtain ⟨_, _, rfl, _⟩ := h; rfl) fun f cdv A outer s H hr ds Q hS => body_fraction T C_common_divisor hr ds Q hS) 1 (by decide) (fun G => .nil)
abbrev S_plus : Spc := ⟨fun ds Q => ∃ p : Rat, ∃ q : Rat, ds = [rq p, rq q] ∧ (Rz 2000 p ∧ Rz 2000 q) ∧ Q (.va (rq (p + q))), fun _ _ _ kk_ ⟨p, q, e_, p_, q_⟩ => ⟨p, q, e_, p_, kk_ _ q_⟩⟩

theorem sc_plus : FnScope ["f", "g"] ["f", "g"] (defScope s_plus) := ⟨rfl, rfl, rfl, by decide +kernel, rfl, by decide +kernel, by decide +kernel⟩
theorem body_plus (T : Txt K mg) (C_fraction : Cal P w K mg base 2 "fraction" S_fraction []) {f : Addr} {cdv : Value} {A : Around} {outer : List Env} {s : Shared} {H : Hp} (hr : Room (2) (A.deeper (envOfC "plus" (defScope s_plus) s.heap.objs.size f cdv))) (ds : List D) (Q : O → Prop) (hS : (S_plus).S ds Q) :
    WSs (cxOf CX0 P w K mg base ["f", "g"] "plus" (defScope s_plus) f cdv A outer s H E0).nox noX (defBody s_plus) (slots 2 ds) { nx := fun _ => Q (.va .non), rt := Q } := by
  have sc := sc_plus
  obtain ⟨p, q, rfl, ⟨hp, hq⟩, hQ⟩ := hS
  refine ws_norm (ρ' := [_, _]) rfl ?_
  have h1 := hp.num
  have h2 := hp.den
  have h3 := hq.num
  have h4 := hq.den
  refine ws_one ?_
  refine ws_retE (ee_cal (C_fraction) (hr.mono (by decide)) (ea_cons (ee_add (ee_mul (ee_ix (ee_var 0 rfl) ee_int rfl rfl) (ee_ix (ee_var 1 rfl) ee_int rfl rfl) (by exact Sz.mulE (by assumption) (by assumption))) (ee_mul (ee_ix (ee_var 1 rfl) ee_int rfl rfl) (ee_ix (ee_var 0 rfl) ee_int rfl rfl) (by exact Sz.mulE (by assumption) (by assumption)))) (ea_cons (ee_mul (ee_ix (ee_var 0 rfl) ee_int rfl rfl) (ee_ix (ee_var 1 rfl) ee_int rfl rfl) (by exact Sz.mulE (by assumption) (by assumption))) ea_nil)) (by exact ⟨_, _, rfl, ⟨mul_ne (rq_ne p) (rq_ne q), (h2.mul h4).mono (by decide)⟩, rfl⟩)) ?_
  rw [rat_add]; exact hQ
theorem cal_plus (T : Txt K mg) (C_fraction : Cal P w K mg base 2 "fraction" S_fraction []) : Cal P w K mg base 3 "plus" S_plus [] :=
  cal_of (T.d_plus.fn (P := P) (w := w) (base := base) (S := S_plus) (k := 2) sc_plus (fun ds Q h => by obtain ⟨_, _, rfl, _⟩ := h; rfl) fun f cdv A outer s H hr ds Q hS => body_plus T C_fraction hr ds Q hS) 0 (by decide) (fun G => .nil)
abbrev S_times : Spc := ⟨fun ds Q => ∃ p : Rat, ∃ q : Rat, ds = [rq p, rq q] ∧ (Rz 2000 p ∧ Rz 2000 q) ∧ Q (.va (rq (p * q))), fun _ _ _ kk_ ⟨p, q, e_, p_, q_⟩ => ⟨p, q, e_, p_, kk_ _ q_⟩⟩

theorem sc_times : FnScope ["f", "g"] ["f", "g"] (defScope s_times) := ⟨rfl, rfl, rfl, by decide +kernel, rfl, by decide +kernel, by decide +kernel⟩
theorem body_times (T : Txt K mg) (C_fraction : Cal P w K mg base 2 "fraction" S_fraction []) {f : Addr} {cdv : Value} {A : Around} {outer : List Env} {s : Shared} {H : Hp} (hr : Room (2) (A.deeper (envOfC "times" (defScope s_times) s.heap.objs.size f cdv))) (ds : List D) (Q : O → Prop) (hS : (S_times).S ds Q) :
    WSs (cxOf CX0 P w K mg base ["f", "g"] "times" (defScope s_times) f cdv A outer s H E0).nox noX (defBody s_times) (slots 2 ds) { nx := fun _ => Q (.va .non), rt := Q } := by
  have sc := sc_times
  obtain ⟨p, q, rfl, ⟨hp, hq⟩, hQ⟩ := hS
  refine ws_norm (ρ' := [_, _]) rfl ?_
  have h1 := hp.num
  have h2 := hp.den
  have h3 := hq.num
  have h4 := hq.den
  refine ws_one ?_
  refine ws_retE (ee_cal (C_fraction) (hr.mono (by decide)) (ea_cons (ee_mul (ee_ix (ee_var 0 rfl) ee_int rfl rfl) (ee_ix (ee_var 1 rfl) ee_int rfl rfl) (by exact Sz.mulE (by assumption) (by assumption))) (ea_cons (ee_mul (ee_ix (ee_var 0 rfl) ee_int rfl rfl) (ee_ix (ee_var 1 rfl) ee_int rfl rfl) (by exact Sz.mulE (by assumption) (by assumption))) ea_nil)) (by exact ⟨_, _, rfl, ⟨mul_ne (rq_ne p) (rq_ne q), (h2.mul h4).mono (by decide)⟩, rfl⟩)) ?_
  rw [rat_mul]; exact hQ
theorem cal_times (T : Txt K mg) (C_fraction : Cal P w K mg base 2 "fraction" S_fraction []) : Cal P w K mg base 3 "times" S_times [] :=
  cal_of (T.d_times.fn (P := P) (w := w) (base := base) (S := S_times) (k := 2) sc_times (fun ds Q h => by obtain ⟨_, _, rfl, _⟩ := h; rfl) fun f cdv A outer s H hr ds Q hS => body_times T C_fraction hr ds Q hS) 0 (by decide) (fun G => .nil)
abbrev S_scalar : Spc := ⟨fun ds Q => ∃ a : Rat, ∃ b : Rat, ∃ c : Rat, ∃ p : Rat, ∃ q : Rat, ∃ r : Rat, ∃ s : Rat, ds = [cl a b c, pt p q, pt r s] ∧ ((Rz 100 a ∧ Rz 100 b ∧ Rz 100 c) ∧ (Rz 250 p ∧ Rz 250 q) ∧ Rz 250 r ∧ Rz 250 s) ∧ Q (.va (rq (scl a b c p q r s))), fun _ _ _ kk_ ⟨a, b, c, p, q, r, s, e_, p_, q_⟩ => ⟨a, b, c, p, q, r, s, e_, p_, kk_ _ q_⟩⟩

theorem sc_scalar : FnScope ["cell", "one", "two", "a", "b", "c", "mixed"] ["cell", "one", "two"] (defScope s_scalar) := ⟨rfl, rfl, rfl, by decide +kernel, rfl, by decide +kernel, by decide +kernel⟩
theorem body_scalar (T : Txt K mg) (C_plus : Cal P w K mg base 3 "plus" S_plus []) (C_times : Cal P w K mg base 3 "times" S_times []) {f : Addr} {cdv : Value} {A : Around} {outer : List Env} {s : Shared} {H : Hp} (hr : Room (3) (A.deeper (envOfC "scalar" (defScope s_scalar) s.heap.objs.size f cdv))) (ds : List D) (Q : O → Prop) (hS : (S_scalar).S ds Q) :
    WSs (cxOf CX0 P w K mg base ["cell", "one", "two", "a", "b", "c", "mixed"] "scalar" (defScope s_scalar) f cdv A outer s H E0).nox noX (defBody s_scalar) (slots 7 ds) { nx := fun _ => Q (.va .non), rt := Q } := by
  have sc := sc_scalar
  obtain ⟨a, b, c, p, q, r, s, rfl, ⟨⟨ha, hb, hc⟩, ⟨hp, hq⟩, hr', hs⟩, hQ⟩ := hS
  refine ws_norm (ρ' := [_, _, _, _, _, _, _]) rfl ?_
  have pr := hp.mul hr'
  have ps := hp.mul hs
  have qr := hq.mul hr'
  have qs := hq.mul hs
  have mx := ps.add qr
  have t1 := ha.mul pr
  have t2 := hb.mul mx
  have t3 := hc.mul qs
  have t4 := t2.add t3
  refine ws_cons ?_
  refine ws_unpack (ee_var 0 rfl) (at_tup (ats_cons (at_name 3 sc.nd) (ats_cons (at_name 4 sc.nd) (ats_cons (at_name 5 sc.nd) ats_nil)))) ?_
  refine ws_norm (ρ' := [_, _, _, _, _, _, _]) rfl ?_
  refine ws_cons ?_
  refine ws_setE 6 (ee_cal (C_plus) (hr.mono (by decide)) (ea_cons (ee_cal (C_times) (hr.mono (by decide)) (ea_cons (ee_ix (ee_var 1 rfl) ee_int rfl rfl) (ea_cons (ee_ix (ee_var 2 rfl) ee_int rfl rfl) ea_nil)) (by first | exact ⟨_, _, rfl, ⟨hp.mono (by decide), hr'.mono (by decide)⟩, rfl⟩ | exact ⟨_, _, rfl, ⟨hp.mono (by decide), hs.mono (by decide)⟩, rfl⟩ | exact ⟨_, _, rfl, ⟨hq.mono (by decide), hr'.mono (by decide)⟩, rfl⟩ | exact ⟨_, _, rfl, ⟨hq.mono (by decide), hs.mono (by decide)⟩, rfl⟩ | exact ⟨_, _, rfl, ⟨ha.mono (by decide), pr.mono (by decide)⟩, rfl⟩ | exact ⟨_, _, rfl, ⟨hb.mono (by decide), mx.mono (by decide)⟩, rfl⟩ | exact ⟨_, _, rfl, ⟨hc.mono (by decide), qs.mono (by decide)⟩, rfl⟩)) (ea_cons (ee_cal (C_times) (hr.mono (by decide)) (ea_cons (ee_ix (ee_var 1 rfl) ee_int rfl rfl) (ea_cons (ee_ix (ee_var 2 rfl) ee_int rfl rfl) ea_nil)) (by first | exact ⟨_, _, rfl, ⟨hp.mono (by decide), hr'.mono (by decide)⟩, rfl⟩ | exact ⟨_, _, rfl, ⟨hp.mono (by decide), hs.mono (by decide)⟩, rfl⟩ | exact ⟨_, _, rfl, ⟨hq.mono (by decide), hr'.mono (by decide)⟩, rfl⟩ | exact ⟨_, _, rfl, ⟨hq.mono (by decide), hs.mono (by decide)⟩, rfl⟩ | exact ⟨_, _, rfl, ⟨ha.mono (by decide), pr.mono (by decide)⟩, rfl⟩ | exact ⟨_, _, rfl, ⟨hb.mono (by decide), mx.mono (by decide)⟩, rfl⟩ | exact ⟨_, _, rfl, ⟨hc.mono (by decide), qs.mono (by decide)⟩, rfl⟩)) ea_nil)) (by first | exact ⟨_, _, rfl, ⟨ps.mono (by decide), qr.mono (by decide)⟩, rfl⟩ | exact ⟨_, _, rfl, ⟨t2.mono (by decide), t3.mono (by decide)⟩, rfl⟩ | exact ⟨_, _, rfl, ⟨t1.mono (by decide), t4.mono (by decide)⟩, rfl⟩)) ?_ sc.nd
  refine ws_norm (ρ' := [_, _, _, _, _, _, _]) rfl ?_
  refine ws_one ?_
  refine ws_retE (ee_cal (C_plus) (hr.mono (by decide)) (ea_cons (ee_cal (C_times) (hr.mono (by decide)) (ea_cons (ee_var 3 rfl) (ea_cons (ee_cal (C_times) (hr.mono (by decide)) (ea_cons (ee_ix (ee_var 1 rfl) ee_int rfl rfl) (ea_cons (ee_ix (ee_var 2 rfl) ee_int rfl rfl) ea_nil)) (by first | exact ⟨_, _, rfl, ⟨hp.mono (by decide), hr'.mono (by decide)⟩, rfl⟩ | exact ⟨_, _, rfl, ⟨hp.mono (by decide), hs.mono (by decide)⟩, rfl⟩ | exact ⟨_, _, rfl, ⟨hq.mono (by decide), hr'.mono (by decide)⟩, rfl⟩ | exact ⟨_, _, rfl, ⟨hq.mono (by decide), hs.mono (by decide)⟩, rfl⟩ | exact ⟨_, _, rfl, ⟨ha.mono (by decide), pr.mono (by decide)⟩, rfl⟩ | exact ⟨_, _, rfl, ⟨hb.mono (by decide), mx.mono (by decide)⟩, rfl⟩ | exact ⟨_, _, rfl, ⟨hc.mono (by decide), qs.mono (by decide)⟩, rfl⟩)) ea_nil)) (by first | exact ⟨_, _, rfl, ⟨hp.mono (by decide), hr'.mono (by decide)⟩, rfl⟩ | exact ⟨_, _, rfl, ⟨hp.mono (by decide), hs.mono (by decide)⟩, rfl⟩ | exact ⟨_, _, rfl, ⟨hq.mono (by decide), hr'.mono (by decide)⟩, rfl⟩ | exact ⟨_, _, rfl, ⟨hq.mono (by decide), hs.mono (by decide)⟩, rfl⟩ | exact ⟨_, _, rfl, ⟨ha.mono (by decide), pr.mono (by decide)⟩, rfl⟩ | exact ⟨_, _, rfl, ⟨hb.mono (by decide), mx.mono (by decide)⟩, rfl⟩ | exact ⟨_, _, rfl, ⟨hc.mono (by decide), qs.mono (by decide)⟩, rfl⟩)) (ea_cons (ee_cal (C_plus) (hr.mono (by decide)) (ea_cons (ee_cal (C_times) (hr.mono (by decide)) (ea_cons (ee_var 4 rfl) (ea_cons (ee_var 6 rfl) ea_nil)) (by first | exact ⟨_, _, rfl, ⟨hp.mono (by decide), hr'.mono (by decide)⟩, rfl⟩ | exact ⟨_, _, rfl, ⟨hp.mono (by decide), hs.mono (by decide)⟩, rfl⟩ | exact ⟨_, _, rfl, ⟨hq.mono (by decide), hr'.mono (by decide)⟩, rfl⟩ | exact ⟨_, _, rfl, ⟨hq.mono (by decide), hs.mono (by decide)⟩, rfl⟩ | exact ⟨_, _, rfl, ⟨ha.mono (by decide), pr.mono (by decide)⟩, rfl⟩ | exact ⟨_, _, rfl, ⟨hb.mono (by decide), mx.mono (by decide)⟩, rfl⟩ | exact ⟨_, _, rfl, ⟨hc.mono (by decide), qs.mono (by decide)⟩, rfl⟩)) (ea_cons (ee_cal (C_times) (hr.mono (by decide)) (ea_cons (ee_var 5 rfl) (ea_cons (ee_cal (C_times) (hr.mono (by decide)) (ea_cons (ee_ix (ee_var 1 rfl) ee_int rfl rfl) (ea_cons (ee_ix (ee_var 2 rfl) ee_int rfl rfl) ea_nil)) (by first | exact ⟨_, _, rfl, ⟨hp.mono (by decide), hr'.mono (by decide)⟩, rfl⟩ | exact ⟨_, _, rfl, ⟨hp.mono (by decide), hs.mono (by decide)⟩, rfl⟩ | exact ⟨_, _, rfl, ⟨hq.mono (by decide), hr'.mono (by decide)⟩, rfl⟩ | exact ⟨_, _, rfl, ⟨hq.mono (by decide), hs.mono (by decide)⟩, rfl⟩ | exact ⟨_, _, rfl, ⟨ha.mono (by decide), pr.mono (by decide)⟩, rfl⟩ | exact ⟨_, _, rfl, ⟨hb.mono (by decide), mx.mono (by decide)⟩, rfl⟩ | exact ⟨_, _, rfl, ⟨hc.mono (by decide), qs.mono (by decide)⟩, rfl⟩)) ea_nil)) (by first | exact ⟨_, _, rfl, ⟨hp.mono (by decide), hr'.mono (by decide)⟩, rfl⟩ | exact ⟨_, _, rfl, ⟨hp.mono (by decide), hs.mono (by decide)⟩, rfl⟩ | exact ⟨_, _, rfl, ⟨hq.mono (by decide), hr'.mono (by decide)⟩, rfl⟩ | exact ⟨_, _, rfl, ⟨hq.mono (by decide), hs.mono (by decide)⟩, rfl⟩ | exact ⟨_, _, rfl, ⟨ha.mono (by decide), pr.mono (by decide)⟩, rfl⟩ | exact ⟨_, _, rfl, ⟨hb.mono (by decide), mx.mono (by decide)⟩, rfl⟩ | exact ⟨_, _, rfl, ⟨hc.mono (by decide), qs.mono (by decide)⟩, rfl⟩)) ea_nil)) (by first | exact ⟨_, _, rfl, ⟨ps.mono (by decide), qr.mono (by decide)⟩, rfl⟩ | exact ⟨_, _, rfl, ⟨t2.mono (by decide), t3.mono (by decide)⟩, rfl⟩ | exact ⟨_, _, rfl, ⟨t1.mono (by decide), t4.mono (by decide)⟩, rfl⟩)) ea_nil)) (by first | exact ⟨_, _, rfl, ⟨ps.mono (by decide), qr.mono (by decide)⟩, rfl⟩ | exact ⟨_, _, rfl, ⟨t2.mono (by decide), t3.mono (by decide)⟩, rfl⟩ | exact ⟨_, _, rfl, ⟨t1.mono (by decide), t4.mono (by decide)⟩, rfl⟩)) ?_
  walk_at "tg return"
theorem cal_scalar (T : Txt K mg) (C_plus : Cal P w K mg base 3 "plus" S_plus []) (C_times : Cal P w K mg base 3 "times" S_times []) : Cal P w K mg base 4 "scalar" S_scalar [] :=
  cal_of (T.d_scalar.fn (P := P) (w := w) (base := base) (S := S_scalar) (k := 3) sc_scalar (fun ds Q h => by obtain ⟨_, _, _, _, _, _, _, rfl, _⟩ := h; rfl) fun f cdv A outer s H hr ds Q hS => body_scalar T C_plus C_times hr ds Q hS) 0 (by decide) (fun G => .nil)
abbrev S_in_cell : Spc := ⟨fun ds Q => ∃ a : Rat, ∃ b : Rat, ∃ c : Rat, ∃ p : Rat, ∃ q : Rat, ∃ r : Rat, ∃ s : Rat, ds = [cl a b c, pt p q, pt r s] ∧ ((Rz 100 a ∧ Rz 100 b ∧ Rz 100 c) ∧ (Rz 250 p ∧ Rz 250 q) ∧ Rz 250 r ∧ Rz 250 s) ∧ Q (.va (cl (scl a b c p q p q) (scl a b c p q r s) (scl a b c r s r s))), fun _ _ _ kk_ ⟨a, b, c, p, q, r, s, e_, p_, q_⟩ => ⟨a, b, c, p, q, r, s, e_, p_, kk_ _ q_⟩⟩

theorem sc_in_cell : FnScope ["cell", "f", "g"] ["cell", "f", "g"] (defScope s_in_cell) := ⟨rfl, rfl, rfl, by decide +kernel, rfl, by decide +kernel, by decide +kernel⟩
theorem body_in_cell (T : Txt K mg) (C_scalar : Cal P w K mg base 4 "scalar" S_scalar []) {f : Addr} {cdv : Value} {A : Around} {outer : List Env} {s : Shared} {H : Hp} (hr : Room (4) (A.deeper (envOfC "in_cell" (defScope s_in_cell) s.heap.objs.size f cdv))) (ds : List D) (Q : O → Prop) (hS : (S_in_cell).S ds Q) :
    WSs (cxOf CX0 P w K mg base ["cell", "f", "g"] "in_cell" (defScope s_in_cell) f cdv A outer s H E0).nox noX (defBody s_in_cell) (slots 3 ds) { nx := fun _ => Q (.va .non), rt := Q } := by
  have sc := sc_in_cell
  obtain ⟨a, b, c, p, q, r, s, rfl, ⟨hz, h1, h2⟩, hQ⟩ := hS
  refine ws_norm (ρ' := [_, _, _]) rfl ?_
  refine ws_one ?_
  refine ws_retE (ee_tup (ea_cons (ee_cal (C_scalar) (hr.mono (by decide)) (ea_cons (ee_var 0 rfl) (ea_cons (ee_var 1 rfl) (ea_cons (ee_var 1 rfl) ea_nil))) (by first | exact ⟨_, _, _, _, _, _, _, rfl, ⟨hz, h1, h1⟩, rfl⟩ | exact ⟨_, _, _, _, _, _, _, rfl, ⟨hz, h1, h2⟩, rfl⟩ | exact ⟨_, _, _, _, _, _, _, rfl, ⟨hz, h2, h2⟩, rfl⟩)) (ea_cons (ee_cal (C_scalar) (hr.mono (by decide)) (ea_cons (ee_var 0 rfl) (ea_cons (ee_var 1 rfl) (ea_cons (ee_var 2 rfl) ea_nil))) (by first | exact ⟨_, _, _, _, _, _, _, rfl, ⟨hz, h1, h1⟩, rfl⟩ | exact ⟨_, _, _, _, _, _, _, rfl, ⟨hz, h1, h2⟩, rfl⟩ | exact ⟨_, _, _, _, _, _, _, rfl, ⟨hz, h2, h2⟩, rfl⟩)) (ea_cons (ee_cal (C_scalar) (hr.mono (by decide)) (ea_cons (ee_var 0 rfl) (ea_cons (ee_var 2 rfl) (ea_cons (ee_var 2 rfl) ea_nil))) (by first | exact ⟨_, _, _, _, _, _, _, rfl, ⟨hz, h1, h1⟩, rfl⟩ | exact ⟨_, _, _, _, _, _, _, rfl, ⟨hz, h1, h2⟩, rfl⟩ | exact ⟨_, _, _, _, _, _, _, rfl, ⟨hz, h2, h2⟩, rfl⟩)) ea_nil)))) ?_
  walk_at "tg return"
theorem cal_in_cell (T : Txt K mg) (C_scalar : Cal P w K mg base 4 "scalar" S_scalar []) : Cal P w K mg base 5 "in_cell" S_in_cell [] :=
  cal_of (T.d_in_cell.fn (P := P) (w := w) (base := base) (S := S_in_cell) (k := 4) sc_in_cell (fun ds Q h => by obtain ⟨_, _, _, _, _, _, _, rfl, _⟩ := h; rfl) fun f cdv A outer s H hr ds Q hS => body_in_cell T C_scalar hr ds Q hS) 0 (by decide) (fun G => .nil)
abbrev S_product : Spc := ⟨fun ds Q => ∃ a : Int, ∃ b : Int, ∃ c : Int, ∃ d : Int, ∃ r : List D, ∃ e : Int, ∃ f : Int, ∃ g : Int, ∃ h : Int, ∃ r2 : List D, ds = [.tup (.int a :: .int b :: .int c :: .int d :: r), .tup (.int e :: .int f :: .int g :: .int h :: r2)] ∧ (Mz 3000 a b c d ∧ Mz 3000 e f g h) ∧ Q (.va (mt (e * a + f * c) (e * b + f * d) (g * a + h * c) (g * b + h * d))), fun _ _ _ kk_ ⟨a, b, c, d, r, e, f, g, h, r2, e_, p_, q_⟩ => ⟨a, b, c, d, r, e, f, g, h, r2, e_, p_, kk_ _ q_⟩⟩

theorem sc_product : FnScope ["first", "second", "a", "b", "c", "d", "e", "f", "g", "h"] ["first", "second"] (defScope s_product) := ⟨rfl, rfl, rfl, by decide +kernel, rfl, by decide +kernel, by decide +kernel⟩
theorem body_product (T : Txt K mg)  {f : Addr} {cdv : Value} {A : Around} {outer : List Env} {s : Shared} {H : Hp} (hr : Room (0) (A.deeper (envOfC "product" (defScope s_product) s.heap.objs.size f cdv))) (ds : List D) (Q : O → Prop) (hS : (S_product).S ds Q) :
    WSs (cxOf CX0 P w K mg base ["first", "second", "a", "b", "c", "d", "e", "f", "g", "h"] "product" (defScope s_product) f cdv A outer s H E0).nox noX (defBody s_product) (slots 10 ds) { nx := fun _ => Q (.va .non), rt := Q } := by
  have sc := sc_product
  obtain ⟨a, b, c, d, r, e, f, g, h, r2, rfl, ⟨⟨ha, hb, hc, hd⟩, he, hf, hg, hh⟩, hQ⟩ := hS
  refine ws_norm (ρ' := [_, _, _, _, _, _, _, _, _, _]) rfl ?_
  refine ws_cons ?_
  refine ws_unpack (ee_slT (ee_var 0 rfl) ep_none (ep_some ee_int) (by exact cut4)) (at_tup (ats_cons (at_name 2 sc.nd) (ats_cons (at_name 3 sc.nd) (ats_cons (at_name 4 sc.nd) (ats_cons (at_name 5 sc.nd) ats_nil))))) ?_
  refine ws_norm (ρ' := [_, _, _, _, _, _, _, _, _, _]) rfl ?_
  refine ws_cons ?_
  refine ws_unpack (ee_slT (ee_var 1 rfl) ep_none (ep_some ee_int) (by exact cut4)) (at_tup (ats_cons (at_name 6 sc.nd) (ats_cons (at_name 7 sc.nd) (ats_cons (at_name 8 sc.nd) (ats_cons (at_name 9 sc.nd) ats_nil))))) ?_
  refine ws_norm (ρ' := [_, _, _, _, _, _, _, _, _, _]) rfl ?_
  refine ws_one ?_
  refine ws_retE (ee_tup (ea_cons (ee_add (ee_mul (ee_var 6 rfl) (ee_var 2 rfl) (by exact Sz.mulE (by assumption) (by assumption))) (ee_mul (ee_var 7 rfl) (ee_var 4 rfl) (by exact Sz.mulE (by assumption) (by assumption)))) (ea_cons (ee_add (ee_mul (ee_var 6 rfl) (ee_var 3 rfl) (by exact Sz.mulE (by assumption) (by assumption))) (ee_mul (ee_var 7 rfl) (ee_var 5 rfl) (by exact Sz.mulE (by assumption) (by assumption)))) (ea_cons (ee_add (ee_mul (ee_var 8 rfl) (ee_var 2 rfl) (by exact Sz.mulE (by assumption) (by assumption))) (ee_mul (ee_var 9 rfl) (ee_var 4 rfl) (by exact Sz.mulE (by assumption) (by assumption)))) (ea_cons (ee_add (ee_mul (ee_var 8 rfl) (ee_var 3 rfl) (by exact Sz.mulE (by assumption) (by assumption))) (ee_mul (ee_var 9 rfl) (ee_var 5 rfl) (by exact Sz.mulE (by assumption) (by assumption)))) ea_nil))))) ?_
  walk_at "tg return"
theorem cal_product (T : Txt K mg)  : Cal P w K mg base 1 "product" S_product [] :=
  cal_of (T.d_product.fn (P := P) (w := w) (base := base) (S := S_product) (k := 0) sc_product (fun ds Q h => by obtain ⟨_, _, _, _, _, _, _, _, _, _, rfl, _⟩ := h; rfl) fun f cdv A outer s H hr ds Q hS => body_product T  hr ds Q hS) 0 (by decide) (fun G => .nil)
abbrev S_divided : Spc := ⟨fun ds Q => ∃ p : Rat, ∃ q : Rat, ds = [rq p, rq q] ∧ (Rz 2000 p ∧ Rz 2000 q ∧ q ≠ 0) ∧ Q (.va (rq (p / q))), fun _ _ _ kk_ ⟨p, q, e_, p_, q_⟩ => ⟨p, q, e_, p_, kk_ _ q_⟩⟩

theorem sc_divided : FnScope ["f", "g"] ["f", "g"] (defScope s_divided) := ⟨rfl, rfl, rfl, by decide +kernel, rfl, by decide +kernel, by decide +kernel⟩
theorem body_divided (T : Txt K mg) (C_fraction : Cal P w K mg base 2 "fraction" S_fraction []) {f : Addr} {cdv : Value} {A : Around} {outer : List Env} {s : Shared} {H : Hp} (hr : Room (2) (A.deeper (envOfC "divided" (defScope s_divided) s.heap.objs.size f cdv))) (ds : List D) (Q : O → Prop) (hS : (S_divided).S ds Q) :
    WSs (cxOf CX0 P w K mg base ["f", "g"] "divided" (defScope s_divided) f cdv A outer s H E0).nox noX (defBody s_divided) (slots 2 ds) { nx := fun _ => Q (.va .non), rt := Q } := by
  have sc := sc_divided
  obtain ⟨p, q, rfl, ⟨hp, hq, hn⟩, hQ⟩ := hS
  refine ws_norm (ρ' := [_, _]) rfl ?_
  have h1 := hp.num
  have h2 := hp.den
  have h3 := hq.num
  have h4 := hq.den
  have hqn : q.num ≠ 0 := fun z => hn (Rat.num_eq_zero.mp z)
  refine ws_one ?_
  refine ws_retE (ee_cal (C_fraction) (hr.mono (by decide)) (ea_cons (ee_mul (ee_ix (ee_var 0 rfl) ee_int rfl rfl) (ee_ix (ee_var 1 rfl) ee_int rfl rfl) (by exact Sz.mulE (by assumption) (by assumption))) (ea_cons (ee_mul (ee_ix (ee_var 0 rfl) ee_int rfl rfl) (ee_ix (ee_var 1 rfl) ee_int rfl rfl) (by exact Sz.mulE (by assumption) (by assumption))) ea_nil)) (by exact ⟨_, _, rfl, ⟨mul_ne (rq_ne p) hqn, (h2.mul h3).mono (by decide)⟩, rfl⟩)) ?_
  rw [rat_divided hn]; exact hQ
theorem cal_divided (T : Txt K mg) (C_fraction : Cal P w K mg base 2 "fraction" S_fraction []) : Cal P w K mg base 3 "divided" S_divided [] :=
  cal_of (T.d_divided.fn (P := P) (w := w) (base := base) (S := S_divided) (k := 2) sc_divided (fun ds Q h => by obtain ⟨_, _, rfl, _⟩ := h; rfl) fun f cdv A outer s H hr ds Q hS => body_divided T C_fraction hr ds Q hS) 0 (by decide) (fun G => .nil)
abbrev S_less : Spc := ⟨fun ds Q => ∃ p : Rat, ∃ q : Rat, ds = [rq p, rq q] ∧ (Rz 2000 p ∧ Rz 2000 q) ∧ Q (.va (.bl (decide (p < q)))), fun _ _ _ kk_ ⟨p, q, e_, p_, q_⟩ => ⟨p, q, e_, p_, kk_ _ q_⟩⟩

theorem sc_less : FnScope ["f", "g"] ["f", "g"] (defScope s_less) := ⟨rfl, rfl, rfl, by decide +kernel, rfl, by decide +kernel, by decide +kernel⟩
theorem body_less (T : Txt K mg)  {f : Addr} {cdv : Value} {A : Around} {outer : List Env} {s : Shared} {H : Hp} (hr : Room (0) (A.deeper (envOfC "less" (defScope s_less) s.heap.objs.size f cdv))) (ds : List D) (Q : O → Prop) (hS : (S_less).S ds Q) :
    WSs (cxOf CX0 P w K mg base ["f", "g"] "less" (defScope s_less) f cdv A outer s H E0).nox noX (defBody s_less) (slots 2 ds) { nx := fun _ => Q (.va .non), rt := Q } := by
  have sc := sc_less
  obtain ⟨p, q, rfl, ⟨hp, hq⟩, hQ⟩ := hS
  refine ws_norm (ρ' := [_, _]) rfl ?_
  have h1 := hp.num
  have h2 := hp.den
  have h3 := hq.num
  have h4 := hq.den
  rw [decide_eq_decide.mpr (Rat.lt_iff p q)] at hQ
  refine ws_one ?_
  refine ws_retE (ee_lt (ee_mul (ee_ix (ee_var 0 rfl) ee_int rfl rfl) (ee_ix (ee_var 1 rfl) ee_int rfl rfl) (by exact Sz.mulE (by assumption) (by assumption))) (ee_mul (ee_ix (ee_var 1 rfl) ee_int rfl rfl) (ee_ix (ee_var 0 rfl) ee_int rfl rfl) (by exact Sz.mulE (by assumption) (by assumption)))) ?_
  walk_at "tg return"
theorem cal_less (T : Txt K mg)  : Cal P w K mg base 1 "less" S_less [] :=
  cal_of (T.d_less.fn (P := P) (w := w) (base := base) (S := S_less) (k := 0) sc_less (fun ds Q h => by obtain ⟨_, _, rfl, _⟩ := h; rfl) fun f cdv A outer s H hr ds Q hS => body_less T  hr ds Q hS) 0 (by decide) (fun G => .nil)
abbrev S_nearest : Spc := ⟨fun ds Q => ∃ q : Rat, ds = [rq q] ∧ (Rz 3000 q) ∧ Q (.va (.int (nr q))), fun _ _ _ kk_ ⟨q, e_, p_, q_⟩ => ⟨q, e_, p_, kk_ _ q_⟩⟩

theorem sc_nearest : FnScope ["f"] ["f"] (defScope s_nearest) := ⟨rfl, rfl, rfl, by decide +kernel, rfl, by decide +kernel, by decide +kernel⟩
theorem body_nearest (T : Txt K mg)  {f : Addr} {cdv : Value} {A : Around} {outer : List Env} {s : Shared} {H : Hp} (hr : Room (0) (A.deeper (envOfC "nearest" (defScope s_nearest) s.heap.objs.size f cdv))) (ds : List D) (Q : O → Prop) (hS : (S_nearest).S ds Q) :
    WSs (cxOf CX0 P w K mg base ["f"] "nearest" (defScope s_nearest) f cdv A outer s H E0).nox noX (defBody s_nearest) (slots 1 ds) { nx := fun _ => Q (.va .non), rt := Q } := by
  have sc := sc_nearest
  obtain ⟨q, rfl, hq, hQ⟩ := hS
  refine ws_norm (ρ' := [_]) rfl ?_
  have h1 := hq.num
  have h2 := hq.den
  have h3 : Sz 2 2 := sz_lit rfl
  have h4 := h3.mul h2
  have hp := rq_pos q
  refine ws_one ?_
  refine ws_retE (ee_fdiv (ee_add (ee_mul ee_int (ee_ix (ee_var 0 rfl) ee_int rfl rfl) (by exact Sz.mulE (by assumption) (by assumption))) (ee_ix (ee_var 0 rfl) ee_int rfl rfl)) (ee_mul ee_int (ee_ix (ee_var 0 rfl) ee_int rfl rfl) (by exact Sz.mulE (by assumption) (by assumption))) (by exact h4.div (by omega))) ?_
  walk_at "tg return"
theorem cal_nearest (T : Txt K mg)  : Cal P w K mg base 1 "nearest" S_nearest [] :=
  cal_of (T.d_nearest.fn (P := P) (w := w) (base := base) (S := S_nearest) (k := 0) sc_nearest (fun ds Q h => by obtain ⟨_, rfl, _⟩ := h; rfl) fun f cdv A outer s H hr ds Q hS => body_nearest T  hr ds Q hS) 0 (by decide) (fun G => .nil)
abbrev S_whole_vector : Spc := ⟨fun ds Q => ∃ x : Int, ∃ y : Int, ds = [vec x y] ∧ (True) ∧ Q (.va (pt (x : Rat) (y : Rat))), fun _ _ _ kk_ ⟨x, y, e_, p_, q_⟩ => ⟨x, y, e_, p_, kk_ _ q_⟩⟩

theorem sc_whole_vector : FnScope ["vector"] ["vector"] (defScope s_whole_vector) := ⟨rfl, rfl, rfl, by decide +kernel, rfl, by decide +kernel, by decide +kernel⟩
theorem body_whole_vector (T : Txt K mg) (C_fraction_1 : Cal P w K mg base 2 "fraction" S_fraction [.int 1]) {f : Addr} {cdv : Value} {A : Around} {outer : List Env} {s : Shared} {H : Hp} (hr : Room (2) (A.deeper (envOfC "whole_vector" (defScope s_whole_vector) s.heap.objs.size f cdv))) (ds : List D) (Q : O → Prop) (hS : (S_whole_vector).S ds Q) :
    WSs (cxOf CX0 P w K mg base ["vector"] "whole_vector" (defScope s_whole_vector) f cdv A outer s H E0).nox noX (defBody s_whole_vector) (slots 1 ds) { nx := fun _ => Q (.va .non), rt := Q } := by
  have sc := sc_whole_vector
  obtain ⟨x, y, rfl, hp, hQ⟩ := hS
  refine ws_norm (ρ' := [_]) rfl ?_
  refine ws_one ?_
  refine ws_retE (ee_tup (ea_cons (ee_cal (C_fraction_1) (hr.mono (by decide)) (ea_cons (ee_ix (ee_var 0 rfl) ee_int rfl rfl) ea_nil) (by exact ⟨_, _, rfl, ⟨by decide, sz_lit rfl⟩, rfl⟩)) (ea_cons (ee_cal (C_fraction_1) (hr.mono (by decide)) (ea_cons (ee_ix (ee_var 0 rfl) ee_int rfl rfl) ea_nil) (by exact ⟨_, _, rfl, ⟨by decide, sz_lit rfl⟩, rfl⟩)) ea_nil))) ?_
  rw [rat_one, rat_one]; exact hQ
theorem cal_whole_vector (T : Txt K mg) (C_fraction_1 : Cal P w K mg base 2 "fraction" S_fraction [.int 1]) : Cal P w K mg base 3 "whole_vector" S_whole_vector [] :=
  cal_of (T.d_whole_vector.fn (P := P) (w := w) (base := base) (S := S_whole_vector) (k := 2) sc_whole_vector (fun ds Q h => by obtain ⟨_, _, rfl, _⟩ := h; rfl) fun f cdv A outer s H hr ds Q hS => body_whole_vector T C_fraction_1 hr ds Q hS) 0 (by decide) (fun G => .nil)
theorem qf_neg {a b c : Rat} {z w : Int} : qf a b c (-z) (-w) = qf a b c z w := by
  unfold qf; simp only [Rat.intCast_neg]; grind
theorem bf_neg {a b c : Rat} {x y z w : Int} : bf a b c x y (-z) (-w) = -(bf a b c x y z w) := by
  unfold bf; simp only [Rat.intCast_neg]; grind
theorem det_neg {x y z w : Int} (h : x * w - y * z = 1 ∨ x * w - y * z = -1) : x * -w - y * -z = 1 ∨ x * -w - y * -z = -1 := by
  have e : x * -w - y * -z = -(x * w - y * z) := by grind
  omega
/-- the loop's state -/
structure RB (a b c : Rat) (x y z w : Int) : Prop where
  det : x * w - y * z = 1 ∨ x * w - y * z = -1
  f : qf a b c x y ≤ a + c
  g : qf a b c z w ≤ a + c
theorem RB.next {a b c : Rat} {x y z w k : Int} (h : RB a b c x y z w) (s3 : qf a b c (z - k * x) (w - k * y) ≤ qf a b c z w) : RB a b c x y (z - k * x) (w - k * y) := by
  have hg := h.g
  refine ⟨?_, h.f, by grind⟩
  have : x * (w - k * y) - y * (z - k * x) = x * w - y * z := by grind
  rw [this]; exact h.det
theorem RB.swap {a b c : Rat} {x y z w : Int} (h : RB a b c x y z w) : RB a b c z w x y := by
  refine ⟨?_, h.g, h.f⟩
  have := h.det
  have e : z * y - w * x = -(x * w - y * z) := by grind
  omega
abbrev S_reduced_basis : Spc := ⟨fun ds Q => ∃ a : Rat, ∃ b : Rat, ∃ c : Rat, ds = [cl a b c] ∧ ((Rz 40 a ∧ Rz 40 b ∧ Rz 40 c) ∧ 0 < a ∧ 0 < a * c - b * b) ∧ ∀ o : O, (∃ x y z w : Int, o = .va (.tup [vec x y, vec z w]) ∧ (x * w - y * z = 1 ∨ x * w - y * z = -1) ∧ (Sz 121 x ∧ Sz 121 y ∧ Sz 121 z ∧ Sz 121 w) ∧ 0 ≤ bf a b c x y z w ∧ 2 * bf a b c x y z w ≤ qf a b c x y ∧ qf a b c x y ≤ qf a b c z w) → Q o, fun _ _ _ kk_ ⟨a, b, c, e_, p_, q_⟩ => ⟨a, b, c, e_, p_, fun o h => kk_ _ (q_ o h)⟩⟩

theorem sc_reduced_basis : FnScope ["cell", "f", "g", "going", "size", "k"] ["cell"] (defScope s_reduced_basis) := ⟨rfl, rfl, rfl, by decide +kernel, rfl, by decide +kernel, by decide +kernel⟩
theorem body_reduced_basis (T : Txt K mg) (C_divided : Cal P w K mg base 3 "divided" S_divided []) (C_less : Cal P w K mg base 1 "less" S_less []) (C_nearest : Cal P w K mg base 1 "nearest" S_nearest []) (C_scalar : Cal P w K mg base 4 "scalar" S_scalar []) (C_whole_vector : Cal P w K mg base 3 "whole_vector" S_whole_vector []) {f : Addr} {cdv : Value} {A : Around} {outer : List Env} {s : Shared} {H : Hp} (hr : Room (4) (A.deeper (envOfC "reduced_basis" (defScope s_reduced_basis) s.heap.objs.size f cdv))) (ds : List D) (Q : O → Prop) (hS : (S_reduced_basis).S ds Q) :
    WSs (cxOf CX0 P w K mg base ["cell", "f", "g", "going", "size", "k"] "reduced_basis" (defScope s_reduced_basis) f cdv A outer s H E0).nox noX (defBody s_reduced_basis) (slots 6 ds) { nx := fun _ => Q (.va .non), rt := Q } := by
  have sc := sc_reduced_basis
  obtain ⟨a, b, c, rfl, ⟨⟨ha, hb, hc⟩, pa, pd⟩, hQ⟩ := hS
  refine ws_norm (ρ' := [_, _, _, _, _, _]) rfl ?_
  obtain ⟨D, a', b', c', I, _⟩ := int3_mk ha hb hc
  have pc : 0 < c := by
    have := qf_pos (x := 0) (y := 1) pa pd (.inr (by decide))
    rwa [qf_01] at this
  have ha2 : Rz 100 a := ha.mono (by decide)
  have hb2 : Rz 100 b := hb.mono (by decide)
  have hc2 : Rz 100 c := hc.mono (by decide)
  refine ws_cons ?_
  refine ws_setE 1 (ee_tup (ea_cons ee_int (ea_cons ee_int ea_nil))) ?_ sc.nd
  refine ws_norm (ρ' := [_, _, _, _, _, _]) rfl ?_
  refine ws_cons ?_
  refine ws_setE 2 (ee_tup (ea_cons ee_int (ea_cons ee_int ea_nil))) ?_ sc.nd
  refine ws_norm (ρ' := [_, _, _, _, _, _]) rfl ?_
  refine ws_cons ?_
  refine ws_setE 3 ee_bl ?_ sc.nd
  refine ws_norm (ρ' := [_, _, _, _, _, _]) rfl ?_
  refine ws_cons ?_
  refine ws_while (fun m ρ => ∃ (x y z w : Int) (t : Bool), ρ = [.va (cl a b c), .va (vec x y), .va (vec z w), .va (.bl t), .un, .un] ∧ RB a b c x y z w ∧ m = (qi a' b' c' x y).toNat + (cond t 1 0) ∧ (t = false → (-(qf a b c x y) ≤ 2 * bf a b c x y z w ∧ 2 * bf a b c x y z w ≤ qf a b c x y) ∧ qf a b c x y ≤ qf a b c z w)) ((qi a' b' c' 1 0).toNat + 1) ?start5 nox_own ?turn5
  case start5 =>
    exact Up.of ⟨1, 0, 0, 1, true, rfl, ⟨.inl (by decide), by rw [qf_10]; grind, by rw [qf_01]; grind⟩, rfl, fun h => by cases h⟩
  case turn5 =>
    rintro m ρ ⟨x, y, z, w, t, rfl, hrb, rfl, hfin⟩
    have hA := qf_pos pa pd (det_nz hrb.det)
    have sf := qf_small ha hb hc pa pd hrb.f
    have sg := qf_small ha hb hc pa pd hrb.g
    have rf : Rz 250 (x : Rat) ∧ Rz 250 (y : Rat) := ⟨(rz_int sf.1).mono (by decide), (rz_int sf.2).mono (by decide)⟩
    have rg : Rz 250 (z : Rat) ∧ Rz 250 (w : Rat) := ⟨(rz_int sg.1).mono (by decide), (rz_int sg.2).mono (by decide)⟩
    have hAz : Rz 1200 (qf a b c x y) := (bf_sz ha hb hc sf.1 sf.2 sf.1 sf.2).mono (by decide)
    have hBz : Rz 1200 (bf a b c x y z w) := (bf_sz ha hb hc sf.1 sf.2 sg.1 sg.2).mono (by decide)
    have hne : qf a b c x y ≠ 0 := by grind
    refine ⟨_, (et_val (ee_var 3 rfl)), fun ht => ?_, fun hf => ?_⟩
    · skip
      subst ht
      refine ws_cons ?_
      refine ws_setE 4 (ee_cal (C_scalar) (hr.mono (by decide)) (ea_cons (ee_var 0 rfl) (ea_cons (ee_cal (C_whole_vector) (hr.mono (by decide)) (ea_cons (ee_var 1 rfl) ea_nil) (by exact ⟨_, _, rfl, trivial, rfl⟩)) (ea_cons (ee_cal (C_whole_vector) (hr.mono (by decide)) (ea_cons (ee_var 1 rfl) ea_nil) (by exact ⟨_, _, rfl, trivial, rfl⟩)) ea_nil))) (by exact ⟨_, _, _, _, _, _, _, rfl, ⟨⟨ha2, hb2, hc2⟩, rf, rf⟩, rfl⟩)) ?_ sc.nd
      refine ws_norm (ρ' := [_, _, _, _, _, _]) rfl ?_
      refine ws_abs 4 (fun d => d = rq (qf a b c x y)) rfl (rfl) ?_
      rintro _ rfl
      refine ws_norm (ρ' := [_, _, _, _, _, _]) rfl ?_
      refine ws_cons ?_
      refine ws_setE 5 (ee_cal (C_nearest) (hr.mono (by decide)) (ea_cons (ee_cal (C_divided) (hr.mono (by decide)) (ea_cons (ee_cal (C_scalar) (hr.mono (by decide)) (ea_cons (ee_var 0 rfl) (ea_cons (ee_cal (C_whole_vector) (hr.mono (by decide)) (ea_cons (ee_var 1 rfl) ea_nil) (by exact ⟨_, _, rfl, trivial, rfl⟩)) (ea_cons (ee_cal (C_whole_vector) (hr.mono (by decide)) (ea_cons (ee_var 2 rfl) ea_nil) (by exact ⟨_, _, rfl, trivial, rfl⟩)) ea_nil))) (by exact ⟨_, _, _, _, _, _, _, rfl, ⟨⟨ha2, hb2, hc2⟩, rf, rg⟩, rfl⟩)) (ea_cons (ee_var 4 rfl) ea_nil)) (by exact ⟨bf a b c x y z w, qf a b c x y, rfl, ⟨hBz.mono (by decide), hAz.mono (by decide), hne⟩, rfl⟩)) ea_nil) (by exact ⟨_, rfl, (rz_divq hBz hAz hne).mono (by decide), rfl⟩)) ?_ sc.nd
      refine ws_norm (ρ' := [_, _, _, _, _, _]) rfl ?_
      refine ws_abs 5 (fun d => ∃ k : Int, d = .int k ∧ k = nr (bf a b c x y z w / qf a b c x y) ∧ Sz 2403 k) rfl (⟨_, rfl, rfl, nr_sz (rz_divq hBz hAz hne)⟩) ?_
      rintro _ ⟨k, rfl, hk, hks⟩
      obtain ⟨s1, s2, s3⟩ := step_small hA hk
      have hrb2 := hrb.next s3
      have sg2 := qf_small ha hb hc pa pd hrb2.g
      have rg2 : Rz 250 ((z - k * x : Int) : Rat) ∧ Rz 250 ((w - k * y : Int) : Rat) := ⟨(rz_int sg2.1).mono (by decide), (rz_int sg2.2).mono (by decide)⟩
      have hGz : Rz 1200 (qf a b c (z - k * x) (w - k * y)) := (bf_sz ha hb hc sg2.1 sg2.2 sg2.1 sg2.2).mono (by decide)
      refine ws_norm (ρ' := [_, _, _, _, _, _]) rfl ?_
      refine ws_cons ?_
      refine ws_setE 2 (ee_tup (ea_cons (ee_sub (ee_ix (ee_var 2 rfl) ee_int rfl rfl) (ee_mul (ee_var 5 rfl) (ee_ix (ee_var 1 rfl) ee_int rfl rfl) (by first | exact Sz.mulE hks sf.1 | exact Sz.mulE hks sf.2))) (ea_cons (ee_sub (ee_ix (ee_var 2 rfl) ee_int rfl rfl) (ee_mul (ee_var 5 rfl) (ee_ix (ee_var 1 rfl) ee_int rfl rfl) (by first | exact Sz.mulE hks sf.1 | exact Sz.mulE hks sf.2))) ea_nil))) ?_ sc.nd
      refine ws_norm (ρ' := [_, _, _, _, _, _]) rfl ?_
      refine ws_cons ?_
      refine ws_setE 3 (ee_cal (C_less) (hr.mono (by decide)) (ea_cons (ee_cal (C_scalar) (hr.mono (by decide)) (ea_cons (ee_var 0 rfl) (ea_cons (ee_cal (C_whole_vector) (hr.mono (by decide)) (ea_cons (ee_var 2 rfl) ea_nil) (by exact ⟨_, _, rfl, trivial, rfl⟩)) (ea_cons (ee_cal (C_whole_vector) (hr.mono (by decide)) (ea_cons (ee_var 2 rfl) ea_nil) (by exact ⟨_, _, rfl, trivial, rfl⟩)) ea_nil))) (by exact ⟨_, _, _, _, _, _, _, rfl, ⟨⟨ha2, hb2, hc2⟩, rg2, rg2⟩, rfl⟩)) (ea_cons (ee_var 4 rfl) ea_nil)) (by exact ⟨qf a b c (z - k * x) (w - k * y), qf a b c x y, rfl, ⟨hGz.mono (by decide), hAz.mono (by decide)⟩, rfl⟩)) ?_ sc.nd
      refine ws_norm (ρ' := [_, _, _, _, _, _]) rfl ?_
      refine ws_one ?_
      refine ws_if (et_val (ee_var 3 rfl)) (fun h10 => ?_) (fun h10 => ?_)
      · skip
        have hlt : qf a b c (z - k * x) (w - k * y) < qf a b c x y := of_decide_eq_true h10
        rw [h10]
        refine ws_one ?_
        refine ws_par 1 2 (ea_cons (ee_var 2 rfl) (ea_cons (ee_var 1 rfl) ea_nil)) ?_ sc.nd
        first | exact ⟨_, by have h1 := qi_lt I hlt; have h2 := qi_nn I (qf_pos pa pd (det_nz hrb2.swap.det)); show _ + 1 < _ + 1; omega, up_intro ⟨_, _, _, _, true, rfl, hrb2.swap, rfl, fun h => by cases h⟩ (by walk_at "tg le")⟩ | exact ⟨_, by show _ + 0 < _ + 1; omega, up_intro ⟨_, _, _, _, false, rfl, hrb2, rfl, fun _ => ⟨⟨s1, s2⟩, Rat.not_lt.mp hlt⟩⟩ (by walk_at "tg le")⟩
      · skip
        have hlt : ¬ qf a b c (z - k * x) (w - k * y) < qf a b c x y := of_decide_eq_false h10
        rw [h10]
        refine ws_nil ?_
        first | exact ⟨_, by have h1 := qi_lt I hlt; have h2 := qi_nn I (qf_pos pa pd (det_nz hrb2.swap.det)); show _ + 1 < _ + 1; omega, up_intro ⟨_, _, _, _, true, rfl, hrb2.swap, rfl, fun h => by cases h⟩ (by walk_at "tg le")⟩ | exact ⟨_, by show _ + 0 < _ + 1; omega, up_intro ⟨_, _, _, _, false, rfl, hrb2, rfl, fun _ => ⟨⟨s1, s2⟩, Rat.not_lt.mp hlt⟩⟩ (by walk_at "tg le")⟩
    · skip
      obtain ⟨⟨f1, f2⟩, f3⟩ := hfin hf
      refine ws_cons ?_
      refine ws_if (et_val (ee_cal (C_less) (hr.mono (by decide)) (ea_cons (ee_cal (C_scalar) (hr.mono (by decide)) (ea_cons (ee_var 0 rfl) (ea_cons (ee_cal (C_whole_vector) (hr.mono (by decide)) (ea_cons (ee_var 1 rfl) ea_nil) (by exact ⟨_, _, rfl, trivial, rfl⟩)) (ea_cons (ee_cal (C_whole_vector) (hr.mono (by decide)) (ea_cons (ee_var 2 rfl) ea_nil) (by exact ⟨_, _, rfl, trivial, rfl⟩)) ea_nil))) (by exact ⟨_, _, _, _, _, _, _, rfl, ⟨⟨ha2, hb2, hc2⟩, rf, rg⟩, rfl⟩)) (ea_cons (ee_con T.c_ZERO) ea_nil)) (by exact ⟨bf a b c x y z w, 0, rfl, ⟨hBz.mono (by decide), rz_zero⟩, rfl⟩))) (fun h12 => ?_) (fun h12 => ?_)
      · skip
        have hB : bf a b c x y z w < 0 := of_decide_eq_true h12
        refine ws_one ?_
        refine ws_setE 2 (ee_tup (ea_cons (ee_neg (ee_ix (ee_var 2 rfl) ee_int rfl rfl)) (ea_cons (ee_neg (ee_ix (ee_var 2 rfl) ee_int rfl rfl)) ea_nil))) ?_ sc.nd
        refine ws_norm (ρ' := [_, _, _, _, _, _]) rfl ?_
        refine ws_one ?_
        refine ws_retE (ee_tup (ea_cons (ee_var 1 rfl) (ea_cons (ee_var 2 rfl) ea_nil))) ?_
        first | exact hQ _ ⟨x, y, -z, -w, rfl, det_neg hrb.det, ⟨sf.1, sf.2, sg.1.neg, sg.2.neg⟩, by rw [bf_neg]; grind, by rw [bf_neg]; grind, by rw [qf_neg]; exact f3⟩ | exact hQ _ ⟨x, y, z, w, rfl, hrb.det, ⟨sf.1, sf.2, sg.1, sg.2⟩, by grind, f2, f3⟩
      · skip
        have hB : ¬ bf a b c x y z w < 0 := of_decide_eq_false h12
        refine ws_nil ?_
        refine ws_one ?_
        refine ws_retE (ee_tup (ea_cons (ee_var 1 rfl) (ea_cons (ee_var 2 rfl) ea_nil))) ?_
        first | exact hQ _ ⟨x, y, -z, -w, rfl, det_neg hrb.det, ⟨sf.1, sf.2, sg.1.neg, sg.2.neg⟩, by rw [bf_neg]; grind, by rw [bf_neg]; grind, by rw [qf_neg]; exact f3⟩ | exact hQ _ ⟨x, y, z, w, rfl, hrb.det, ⟨sf.1, sf.2, sg.1, sg.2⟩, by grind, f2, f3⟩
theorem cal_reduced_basis (T : Txt K mg) (C_divided : Cal P w K mg base 3 "divided" S_divided []) (C_less : Cal P w K mg base 1 "less" S_less []) (C_nearest : Cal P w K mg base 1 "nearest" S_nearest []) (C_scalar : Cal P w K mg base 4 "scalar" S_scalar []) (C_whole_vector : Cal P w K mg base 3 "whole_vector" S_whole_vector []) : Cal P w K mg base 5 "reduced_basis" S_reduced_basis [] :=
  cal_of (T.d_reduced_basis.fn (P := P) (w := w) (base := base) (S := S_reduced_basis) (k := 4) sc_reduced_basis (fun ds Q h => by obtain ⟨_, _, _, rfl, _⟩ := h; rfl) fun f cdv A outer s H hr ds Q hS => body_reduced_basis T C_divided C_less C_nearest C_scalar C_whole_vector hr ds Q hS) 0 (by decide) (fun G => .nil)
abbrev S_reverse_matrix : Spc := ⟨fun ds Q => ∃ a : Int, ∃ b : Int, ∃ c : Int, ∃ d : Int, ∃ r : List D, ds = [.tup (.int a :: .int b :: .int c :: .int d :: r)] ∧ (Mz 400 a b c d) ∧ Q (.va (mt ((a * d - b * c) * d) (-(a * d - b * c) * b) (-(a * d - b * c) * c) ((a * d - b * c) * a))), fun _ _ _ kk_ ⟨a, b, c, d, r, e_, p_, q_⟩ => ⟨a, b, c, d, r, e_, p_, kk_ _ q_⟩⟩

theorem sc_reverse_matrix : FnScope ["matrix", "a", "b", "c", "d", "sign"] ["matrix"] (defScope s_reverse_matrix) := ⟨rfl, rfl, rfl, by decide +kernel, rfl, by decide +kernel, by decide +kernel⟩
theorem body_reverse_matrix (T : Txt K mg)  {f : Addr} {cdv : Value} {A : Around} {outer : List Env} {s : Shared} {H : Hp} (hr : Room (0) (A.deeper (envOfC "reverse_matrix" (defScope s_reverse_matrix) s.heap.objs.size f cdv))) (ds : List D) (Q : O → Prop) (hS : (S_reverse_matrix).S ds Q) :
    WSs (cxOf CX0 P w K mg base ["matrix", "a", "b", "c", "d", "sign"] "reverse_matrix" (defScope s_reverse_matrix) f cdv A outer s H E0).nox noX (defBody s_reverse_matrix) (slots 6 ds) { nx := fun _ => Q (.va .non), rt := Q } := by
  have sc := sc_reverse_matrix
  obtain ⟨a, b, c, d, r, rfl, ⟨ha, hb, hc, hd⟩, hQ⟩ := hS
  refine ws_norm (ρ' := [_, _, _, _, _, _]) rfl ?_
  have hs := (ha.mul hd).sub (hb.mul hc)
  have hsn := hs.neg
  refine ws_cons ?_
  refine ws_unpack (ee_slT (ee_var 0 rfl) ep_none (ep_some ee_int) (by exact cut4)) (at_tup (ats_cons (at_name 1 sc.nd) (ats_cons (at_name 2 sc.nd) (ats_cons (at_name 3 sc.nd) (ats_cons (at_name 4 sc.nd) ats_nil))))) ?_
  refine ws_norm (ρ' := [_, _, _, _, _, _]) rfl ?_
  refine ws_cons ?_
  refine ws_setE 5 (ee_sub (ee_mul (ee_var 1 rfl) (ee_var 4 rfl) (by exact Sz.mulE (by assumption) (by assumption))) (ee_mul (ee_var 2 rfl) (ee_var 3 rfl) (by exact Sz.mulE (by assumption) (by assumption)))) ?_ sc.nd
  refine ws_norm (ρ' := [_, _, _, _, _, _]) rfl ?_
  refine ws_one ?_
  refine ws_retE (ee_tup (ea_cons (ee_mul (ee_var 5 rfl) (ee_var 4 rfl) (by exact Sz.mulE (by assumption) (by assumption))) (ea_cons (ee_mul (ee_neg (ee_var 5 rfl)) (ee_var 2 rfl) (by exact Sz.mulE (by assumption) (by assumption))) (ea_cons (ee_mul (ee_neg (ee_var 5 rfl)) (ee_var 3 rfl) (by exact Sz.mulE (by assumption) (by assumption))) (ea_cons (ee_mul (ee_var 5 rfl) (ee_var 1 rfl) (by exact Sz.mulE (by assumption) (by assumption))) ea_nil))))) ?_
  walk_at "tg return"
theorem cal_reverse_matrix (T : Txt K mg)  : Cal P w K mg base 1 "reverse_matrix" S_reverse_matrix [] :=
  cal_of (T.d_reverse_matrix.fn (P := P) (w := w) (base := base) (S := S_reverse_matrix) (k := 0) sc_reverse_matrix (fun ds Q h => by obtain ⟨_, _, _, _, _, rfl, _⟩ := h; rfl) fun f cdv A outer s H hr ds Q hS => body_reverse_matrix T  hr ds Q hS) 0 (by decide) (fun G => .nil)
theorem steps_small : ∀ v ∈ stepsL, Sz 2 v.1 ∧ Sz 2 v.2 := by unfold Sz; decide
theorem filt_len {l : List (Int × Int)} (p : Int × Int → Bool) (h : l.length ≤ 8) : (l.filter p).length ≤ 8 := Nat.le_trans (List.length_filter_le _ _) h
theorem steps_len : stepsL.length ≤ 8 := by decide
abbrev enc2 (p : (Int × Int) × (Int × Int)) : D := .tup [vc p.1, vc p.2]
abbrev S_same_lengths : Spc := ⟨fun ds Q => ∃ a : Rat, ∃ b : Rat, ∃ c : Rat, ∃ A : Rat, ∃ B : Rat, ∃ C : Rat, ds = [cl a b c, cl A B C] ∧ ((Rz 25 a ∧ Rz 25 b ∧ Rz 25 c) ∧ Rz 25 A ∧ Rz 25 B ∧ Rz 25 C) ∧ Q (.ml ((sameL a b c A B C).map fun p => .tup [vc p.1, vc p.2])), fun _ _ _ kk_ ⟨a, b, c, A, B, C, e_, p_, q_⟩ => ⟨a, b, c, A, B, C, e_, p_, kk_ _ q_⟩⟩

theorem sc_same_lengths : FnScope ["cell", "wanted", "vectors", "vector", "firsts", "entry", "seconds", "found", "one", "first", "two", "second"] ["cell", "wanted"] (defScope s_same_lengths) := ⟨rfl, rfl, rfl, by decide +kernel, rfl, by decide +kernel, by decide +kernel⟩
theorem body_same_lengths (T : Txt K mg) (C_scalar : Cal P w K mg base 4 "scalar" S_scalar []) (C_whole_vector : Cal P w K mg base 3 "whole_vector" S_whole_vector []) {f : Addr} {cdv : Value} {A : Around} {outer : List Env} {s : Shared} {H : Hp} (hr : Room (4) (A.deeper (envOfC "same_lengths" (defScope s_same_lengths) s.heap.objs.size f cdv))) (ds : List D) (Q : O → Prop) (hS : (S_same_lengths).S ds Q) :
    WSs (cxOf CX0 P w K mg base ["cell", "wanted", "vectors", "vector", "firsts", "entry", "seconds", "found", "one", "first", "two", "second"] "same_lengths" (defScope s_same_lengths) f cdv A outer s H E0).nox noX (defBody s_same_lengths) (slots 12 ds) { nx := fun _ => Q (.va .non), rt := Q } := by
  have sc := sc_same_lengths
  obtain ⟨a, b, c, A, B, C, rfl, ⟨⟨ha, hb, hc⟩, hA, hB, hC⟩, hQ⟩ := hS
  refine ws_norm (ρ' := [_, _, _, _, _, _, _, _, _, _, _, _]) rfl ?_
  refine ws_cons ?_
  refine ws_setLc 2 (f := fun k _ => some (ent (stepsL.getD k (0, 0)))) [("vector", 3)] (ei_tup (ee_con T.c_STEPS)) sc.nd (blkOk_by (N := ["cell", "wanted", "vectors", "vector", "firsts", "entry", "seconds", "found", "one", "first", "two", "second"]) (sc := defScope s_same_lengths) (by decide +kernel)) (by walk_at "tg size") ?turn2 ?nx2
  case turn2 =>
    intro k d hk
    obtain ⟨hk', rfl⟩ := map_getK (f := vc) (l := stepsL) (0, 0) (show (stepsL.map vc)[k]? = some d from hk)
    refine ⟨_, _, fun _ _ _ _ _ => (ab_name 3 (by decide) sc.nd), fun _ _ _ _ _ => ets_nil, fun ht => ?_, fun hf => ?_⟩
    · skip
      exact ⟨_, rfl, fun _ _ _ _ _ => (ee_tup (ea_cons (ee_var 3 rfl) (ea_cons (ee_cal (C_whole_vector) (hr.mono (by decide)) (ea_cons (ee_var 3 rfl) ea_nil) (by exact ⟨_, _, rfl, (by walk_at "tg pre"), rfl⟩)) ea_nil)))⟩
    · skip
      exact absurd hf (by decide)
  case nx2 =>
    refine ws_norm (ρ' := [_, _, _, _, _, _, _, _, _, _, _, _]) rfl ?_
    refine ws_freeze 2 rfl ?_
    refine ws_norm (ρ' := [_, _, _, _, _, _, _, _, _, _, _, _]) rfl ?_
    refine ws_abs 2 (fun d => d = .lst (stepsL.map ent)) rfl (rfl) ?_
    rintro _ rfl
    refine ws_norm (ρ' := [_, _, _, _, _, _, _, _, _, _, _, _]) rfl ?_
    refine ws_cons ?_
    refine ws_setLc 4 (f := fun _ d => match d with | .tup [.tup [.int x, .int y], _] => (if decide (qf a b c x y = A) = true then some d else none) | _ => none) [("entry", 5)] (ei_lst (ee_var 2 rfl)) sc.nd (blkOk_by (N := ["cell", "wanted", "vectors", "vector", "firsts", "entry", "seconds", "found", "one", "first", "two", "second"]) (sc := defScope s_same_lengths) (by decide +kernel)) (by walk_at "tg size") ?turn3 ?nx3
    case turn3 =>
      intro k d hk
      obtain ⟨hk', rfl⟩ := map_getK (f := ent) (l := stepsL) (0, 0) hk
      have hvm := steps_small _ (getD_mem (x := (0, 0)) hk')
      obtain ⟨hv1, hv2⟩ := hvm
      refine ⟨_, _, fun _ _ _ _ _ => (ab_name 5 (by decide) sc.nd), fun _ _ _ _ _ => (ets_one (et_eq hr.units (ee_cal (C_scalar) (hr.mono (by decide)) (ea_cons (ee_var 0 rfl) (ea_cons (ee_ix (ee_var 5 rfl) ee_int rfl (by exact atI_at 1 rfl rfl)) (ea_cons (ee_ix (ee_var 5 rfl) ee_int rfl (by exact atI_at 1 rfl rfl)) ea_nil))) (by exact ⟨_, _, _, _, _, _, _, rfl, (by walk_at "tg pre"), rfl⟩)) (ee_ix (ee_var 1 rfl) ee_int rfl (by exact atI_at 0 rfl rfl)) (by walk_at "tg cmp") (by walk_at "tg cmp"))), fun ht => ?_, fun hf => ?_⟩
      · skip
        exact ⟨_, (if_pos (by rw [← rq_eqv]; exact ht)), fun _ _ _ _ _ => (ee_var 5 rfl)⟩
      · skip
        exact if_neg (fun z => by rw [← rq_eqv] at z; exact Bool.noConfusion (hf.symm.trans z))
    case nx3 =>
      refine ws_norm (ρ' := [_, _, _, _, _, _, _, _, _, _, _, _]) rfl ?_
      refine ws_freeze 4 rfl ?_
      refine ws_norm (ρ' := [_, _, _, _, _, _, _, _, _, _, _, _]) rfl ?_
      refine ws_abs 4 (fun d => d = .lst ((stepsL.filter fun v => decide (qf a b c v.1 v.2 = A)).map ent)) rfl (congrArg D.lst (pick_filter stepsL 0 fun _ _ => rfl)) ?_
      rintro _ rfl
      refine ws_norm (ρ' := [_, _, _, _, _, _, _, _, _, _, _, _]) rfl ?_
      refine ws_cons ?_
      refine ws_setLc 6 (f := fun _ d => match d with | .tup [.tup [.int x, .int y], _] => (if decide (qf a b c x y = C) = true then some d else none) | _ => none) [("entry", 5)] (ei_lst (ee_var 2 rfl)) sc.nd (blkOk_by (N := ["cell", "wanted", "vectors", "vector", "firsts", "entry", "seconds", "found", "one", "first", "two", "second"]) (sc := defScope s_same_lengths) (by decide +kernel)) (by walk_at "tg size") ?turn4 ?nx4
      case turn4 =>
        intro k d hk
        obtain ⟨hk', rfl⟩ := map_getK (f := ent) (l := stepsL) (0, 0) hk
        have hvm := steps_small _ (getD_mem (x := (0, 0)) hk')
        obtain ⟨hv1, hv2⟩ := hvm
        refine ⟨_, _, fun _ _ _ _ _ => (ab_name 5 (by decide) sc.nd), fun _ _ _ _ _ => (ets_one (et_eq hr.units (ee_cal (C_scalar) (hr.mono (by decide)) (ea_cons (ee_var 0 rfl) (ea_cons (ee_ix (ee_var 5 rfl) ee_int rfl (by exact atI_at 1 rfl rfl)) (ea_cons (ee_ix (ee_var 5 rfl) ee_int rfl (by exact atI_at 1 rfl rfl)) ea_nil))) (by exact ⟨_, _, _, _, _, _, _, rfl, (by walk_at "tg pre"), rfl⟩)) (ee_ix (ee_var 1 rfl) ee_int rfl (by exact atI_at 2 rfl rfl)) (by walk_at "tg cmp") (by walk_at "tg cmp"))), fun ht => ?_, fun hf => ?_⟩
        · skip
          exact ⟨_, (if_pos (by rw [← rq_eqv]; exact ht)), fun _ _ _ _ _ => (ee_var 5 rfl)⟩
        · skip
          exact if_neg (fun z => by rw [← rq_eqv] at z; exact Bool.noConfusion (hf.symm.trans z))
      case nx4 =>
        refine ws_norm (ρ' := [_, _, _, _, _, _, _, _, _, _, _, _]) rfl ?_
        refine ws_freeze 6 rfl ?_
        refine ws_norm (ρ' := [_, _, _, _, _, _, _, _, _, _, _, _]) rfl ?_
        refine ws_abs 6 (fun d => d = .lst ((stepsL.filter fun w => decide (qf a b c w.1 w.2 = C)).map ent)) rfl (congrArg D.lst (pick_filter stepsL 0 fun _ _ => rfl)) ?_
        rintro _ rfl
        refine ws_norm (ρ' := [_, _, _, _, _, _, _, _, _, _, _, _]) rfl ?_
        refine ws_cons ?_
        refine ws_setM 7 (eo_lst ea_nil) ?_ sc.nd
        refine ws_norm (ρ' := [_, _, _, _, _, _, _, _, _, _, _, _]) rfl ?_
        refine ws_cons ?_
        refine ws_forL (fun k ρ => ∃ l : List D, ρ = [.va (cl a b c), .va (cl A B C), .va (.lst (stepsL.map ent)), .un, .va (.lst ((stepsL.filter fun v => decide (qf a b c v.1 v.2 = A)).map ent)), .un, .va (.lst ((stepsL.filter fun w => decide (qf a b c w.1 w.2 = C)).map ent)), .ml l, .un, .un, .un, .un] ∧ l = (((stepsL.filter fun v => decide (qf a b c v.1 v.2 = A)).take k).flatMap (fun v => (((stepsL.filter fun w => decide (qf a b c w.1 w.2 = C))).filter fun w => decide (v.1 * w.2 ≠ v.2 * w.1 ∧ bf a b c v.1 v.2 w.1 w.2 = B)).map fun w => (v, w))).map enc2) (ee_var 4 rfl) ?start6 nox_own ?turn6 ?fin6
        case start6 =>
          exact up_intro ⟨_, rfl, rfl⟩ (by walk_at "tg le")
        case turn6 =>
          intro k d ρ hk hR
          obtain ⟨l, rfl, hl⟩ := hR
          obtain ⟨hk', rfl⟩ := map_getK (f := ent) (l := (stepsL.filter fun v => decide (qf a b c v.1 v.2 = A))) (0, 0) hk
          have hvm := steps_small _ (List.mem_filter.mp (getD_mem (x := (0, 0)) hk')).1
          obtain ⟨hv1, hv2⟩ := hvm
          refine ⟨_, (at_tup (ats_cons (at_name 8 sc.nd) (ats_cons (at_name 9 sc.nd) ats_nil))), ?_⟩
          refine ws_norm (ρ' := [_, _, _, _, _, _, _, _, _, _, _, _]) rfl ?_
          refine ws_one ?_
          refine ws_forL (fun j ρ => ∃ l : List D, ρ = [.va (cl a b c), .va (cl A B C), .va (.lst (stepsL.map ent)), .un, .va (.lst ((stepsL.filter fun v => decide (qf a b c v.1 v.2 = A)).map ent)), .un, .va (.lst ((stepsL.filter fun w => decide (qf a b c w.1 w.2 = C)).map ent)), .ml l, .va (vc (((stepsL.filter fun v => decide (qf a b c v.1 v.2 = A))).getD k (0, 0))), .va (pt (((((stepsL.filter fun v => decide (qf a b c v.1 v.2 = A))).getD k (0, 0)).1 : Int) : Rat) (((((stepsL.filter fun v => decide (qf a b c v.1 v.2 = A))).getD k (0, 0)).2 : Int) : Rat)), .un, .un] ∧ l = (((stepsL.filter fun v => decide (qf a b c v.1 v.2 = A)).take k).flatMap (fun v => (((stepsL.filter fun w => decide (qf a b c w.1 w.2 = C))).filter fun w => decide (v.1 * w.2 ≠ v.2 * w.1 ∧ bf a b c v.1 v.2 w.1 w.2 = B)).map fun w => (v, w)) ++ (((stepsL.filter fun w => decide (qf a b c w.1 w.2 = C)).take j).filter (fun w : Int × Int => decide ((((stepsL.filter fun v => decide (qf a b c v.1 v.2 = A))).getD k (0, 0)).1 * w.2 ≠ (((stepsL.filter fun v => decide (qf a b c v.1 v.2 = A))).getD k (0, 0)).2 * w.1 ∧ bf a b c (((stepsL.filter fun v => decide (qf a b c v.1 v.2 = A))).getD k (0, 0)).1 (((stepsL.filter fun v => decide (qf a b c v.1 v.2 = A))).getD k (0, 0)).2 w.1 w.2 = B))).map fun w => ((((stepsL.filter fun v => decide (qf a b c v.1 v.2 = A))).getD k (0, 0)), w)).map enc2) (ee_var 6 rfl) ?start7 nox_own ?turn7 ?fin7
          case start7 =>
            exact up_intro ⟨_, rfl, by rw [List.take_zero, List.filter_nil, List.map_nil, List.append_nil, ← hl]⟩ (by walk_at "tg le")
          case turn7 =>
            intro j d ρ hj hR
            obtain ⟨l2, rfl, hl⟩ := hR
            obtain ⟨hj', rfl⟩ := map_getK (f := ent) (l := (stepsL.filter fun w => decide (qf a b c w.1 w.2 = C))) (0, 0) hj
            have hwm := steps_small _ (List.mem_filter.mp (getD_mem (x := (0, 0)) hj')).1
            obtain ⟨hw1, hw2⟩ := hwm
            refine ⟨_, (at_tup (ats_cons (at_name 10 sc.nd) (ats_cons (at_name 11 sc.nd) ats_nil))), ?_⟩
            refine ws_norm (ρ' := [_, _, _, _, _, _, _, _, _, _, _, _]) rfl ?_
            refine ws_one ?_
            refine ws_if (EW.et (ew_and (et_neI hr.units (ee_mul (ee_ix (ee_var 8 rfl) ee_int rfl (by exact atI_at 0 rfl rfl)) (ee_ix (ee_var 10 rfl) ee_int rfl (by exact atI_at 1 rfl rfl)) (by walk_at "tg mul")) (ee_mul (ee_ix (ee_var 8 rfl) ee_int rfl (by exact atI_at 1 rfl rfl)) (ee_ix (ee_var 10 rfl) ee_int rfl (by exact atI_at 0 rfl rfl)) (by walk_at "tg mul"))) (fun hv => (ew_and1 (et_eq hr.units (ee_cal (C_scalar) (hr.mono (by decide)) (ea_cons (ee_var 0 rfl) (ea_cons (ee_var 9 rfl) (ea_cons (ee_var 11 rfl) ea_nil))) (by exact ⟨_, _, _, _, _, _, _, rfl, (by walk_at "tg pre"), rfl⟩)) (ee_ix (ee_var 1 rfl) ee_int rfl (by exact atI_at 1 rfl rfl)) (by walk_at "tg cmp") (by walk_at "tg cmp")))))) (fun h8 => ?_) (fun h8 => ?_)
            · skip
              have hp : (fun w : Int × Int => decide ((((stepsL.filter fun v => decide (qf a b c v.1 v.2 = A))).getD k (0, 0)).1 * w.2 ≠ (((stepsL.filter fun v => decide (qf a b c v.1 v.2 = A))).getD k (0, 0)).2 * w.1 ∧ bf a b c (((stepsL.filter fun v => decide (qf a b c v.1 v.2 = A))).getD k (0, 0)).1 (((stepsL.filter fun v => decide (qf a b c v.1 v.2 = A))).getD k (0, 0)).2 w.1 w.2 = B)) (((stepsL.filter fun w => decide (qf a b c w.1 w.2 = C))).getD j (0, 0)) = true := by
                rw [rq_eqv] at h8
                rw [← h8]
                simp only [Bool.decide_and, decide_not]
                rfl
              refine ws_one ?_
              refine ws_append 7 rfl (ee_tup (ea_cons (ee_var 8 rfl) (ea_cons (ee_var 10 rfl) ea_nil))) (by rw [hl, List.length_map, List.length_append, List.length_map]; have l1 := filt_len (fun v => decide (qf a b c v.1 v.2 = A)) steps_len; have l2 := filt_len (fun v => decide (qf a b c v.1 v.2 = C)) steps_len; have l3 := flat_len (l := ((stepsL.filter fun v => decide (qf a b c v.1 v.2 = A))).take k) (f := fun v => (((stepsL.filter fun w => decide (qf a b c w.1 w.2 = C))).filter fun w => decide (v.1 * w.2 ≠ v.2 * w.1 ∧ bf a b c v.1 v.2 w.1 w.2 = B)).map fun w => (v, w)) (n := 8) fun v => (by rw [List.length_map]; exact filt_len _ l2); have l4 := filt_len (fun w : Int × Int => decide ((((stepsL.filter fun v => decide (qf a b c v.1 v.2 = A))).getD k (0, 0)).1 * w.2 ≠ (((stepsL.filter fun v => decide (qf a b c v.1 v.2 = A))).getD k (0, 0)).2 * w.1 ∧ bf a b c (((stepsL.filter fun v => decide (qf a b c v.1 v.2 = A))).getD k (0, 0)).1 (((stepsL.filter fun v => decide (qf a b c v.1 v.2 = A))).getD k (0, 0)).2 w.1 w.2 = B)) (Nat.le_trans (List.length_take_le' j _) l2); have l5 := List.length_take_le' k (stepsL.filter fun v => decide (qf a b c v.1 v.2 = A)); exact line_of (by omega)) ?_
              first | exact up_intro ⟨_, rfl, by rw [in_yesM hj' hp, ← hl]⟩ (by walk_at "tg le") | exact up_intro ⟨_, rfl, by rw [in_noM hj' hp, ← hl]⟩ (by walk_at "tg le")
            · skip
              have hp : (fun w : Int × Int => decide ((((stepsL.filter fun v => decide (qf a b c v.1 v.2 = A))).getD k (0, 0)).1 * w.2 ≠ (((stepsL.filter fun v => decide (qf a b c v.1 v.2 = A))).getD k (0, 0)).2 * w.1 ∧ bf a b c (((stepsL.filter fun v => decide (qf a b c v.1 v.2 = A))).getD k (0, 0)).1 (((stepsL.filter fun v => decide (qf a b c v.1 v.2 = A))).getD k (0, 0)).2 w.1 w.2 = B)) (((stepsL.filter fun w => decide (qf a b c w.1 w.2 = C))).getD j (0, 0)) = false := by
                rw [rq_eqv] at h8
                rw [← h8]
                simp only [Bool.decide_and, decide_not]
                rfl
              refine ws_nil ?_
              first | exact up_intro ⟨_, rfl, by rw [in_yesM hj' hp, ← hl]⟩ (by walk_at "tg le") | exact up_intro ⟨_, rfl, by rw [in_noM hj' hp, ← hl]⟩ (by walk_at "tg le")
          case fin7 =>
            intro ρ hR
            obtain ⟨l2, rfl, hl⟩ := hR
            rw [List.length_map, List.take_length] at hl
            have hl2 : l2 = (((stepsL.filter fun v => decide (qf a b c v.1 v.2 = A)).take (k + 1)).flatMap (fun v => (((stepsL.filter fun w => decide (qf a b c w.1 w.2 = C))).filter fun w => decide (v.1 * w.2 ≠ v.2 * w.1 ∧ bf a b c v.1 v.2 w.1 w.2 = B)).map fun w => (v, w))).map enc2 := by rw [flat_next (x := (0, 0)) hk', hl]
            exact up_intro ⟨_, rfl, hl2⟩ (by walk_at "tg le")
        case fin6 =>
          intro ρ hR
          obtain ⟨l, rfl, hl⟩ := hR
          rw [List.length_map, List.take_length] at hl
          subst hl
          refine ws_one ?_
          refine ws_retM 7 rfl ?_
          walk_at "tg return"
theorem cal_same_lengths (T : Txt K mg) (C_scalar : Cal P w K mg base 4 "scalar" S_scalar []) (C_whole_vector : Cal P w K mg base 3 "whole_vector" S_whole_vector []) : Cal P w K mg base 5 "same_lengths" S_same_lengths [] :=
  cal_of (T.d_same_lengths.fn (P := P) (w := w) (base := base) (S := S_same_lengths) (k := 4) sc_same_lengths (fun ds Q h => by obtain ⟨_, _, _, _, _, _, rfl, _⟩ := h; rfl) fun f cdv A outer s H hr ds Q hS => body_same_lengths T C_scalar C_whole_vector hr ds Q hS) 0 (by decide) (fun G => .nil)
theorem Sh.to0 {a b c : Rat} (h : Sh a b c) : Sh0 a b c := ⟨h.p, h.b0, h.b1, h.c1⟩
theorem Un.det {m : Mq} (h : Un m) : m.a * m.d - m.c * m.b = 1 ∨ m.a * m.d - m.c * m.b = -1 := by rw [Int.mul_comm m.c]; exact h
theorem Un.det' {m : Mq} (h : Un m) : m.a * m.d - m.b * m.c = 1 ∨ m.a * m.d - m.b * m.c = -1 := h
theorem keep_aut {a b c : Rat} {N : Mq} {x y z w : Int} (h : Sh a b c) (hN : Un N) (hM : Un ⟨x, z, y, w⟩) (e1 : qf (qf a b c (rv N).a (rv N).c) (bf a b c (rv N).a (rv N).c (rv N).b (rv N).d) (qf a b c (rv N).b (rv N).d) x y = a) (e2 : bf (qf a b c (rv N).a (rv N).c) (bf a b c (rv N).a (rv N).c (rv N).b (rv N).d) (qf a b c (rv N).b (rv N).d) x y z w = b) (e3 : qf (qf a b c (rv N).a (rv N).c) (bf a b c (rv N).a (rv N).c (rv N).b (rv N).d) (qf a b c (rv N).b (rv N).d) z w = c) : Aut a b c (tn ⟨x, z, y, w⟩ (rv N)) := by
  refine ⟨?_, ?_, ?_⟩
  · exact (comp_qf (a := a) (b := b) (c := c)).symm.trans e1
  · exact (comp_bf (a := a) (b := b) (c := c)).symm.trans e2
  · exact (comp_qf (a := a) (b := b) (c := c)).symm.trans e3
theorem keep_srt {a b c : Rat} {N M : Mq} (h : Sh a b c) (hN : Un N) (hP : Aut a b c (tn M (rv N))) : srt ((sameL a b c a b c).map fun p => (cj M (colM p)).D) = srt ((keepL a b c).map fun m => (cj N m).D) := by
  have e : M = tn (tn M (rv N)) N := by rw [tn_assoc, rv_tn hN, tn_one]
  have hp := keep_perm h.to0 hN hP
  rw [← e] at hp
  have := srt_perm (f := Mq.D) hp mq_alike fun x y => mq_eqv
  rw [List.map_map, List.map_map] at this
  exact this
theorem same_small {a b c A B C : Rat} : ∀ p ∈ sameL a b c A B C, (Sz 2 p.1.1 ∧ Sz 2 p.1.2) ∧ Sz 2 p.2.1 ∧ Sz 2 p.2.2 := fun p hp => by
  obtain ⟨v, hv, hw⟩ := List.mem_flatMap.mp hp
  obtain ⟨w, hw2, rfl⟩ := List.mem_map.mp hw
  exact ⟨steps_small _ (List.mem_filter.mp hv).1, steps_small _ (List.mem_filter.mp (List.mem_filter.mp hw2).1).1⟩
theorem same_len {a b c A B C : Rat} : (sameL a b c A B C).length ≤ 64 := by
  have l1 := filt_len (fun v => decide (qf a b c v.1 v.2 = A)) steps_len
  have l2 := filt_len (fun v => decide (qf a b c v.1 v.2 = C)) steps_len
  have l3 := flat_len (l := stepsL.filter fun v => decide (qf a b c v.1 v.2 = A)) (f := fun v => ((stepsL.filter fun w => decide (qf a b c w.1 w.2 = C)).filter fun w => decide (v.1 * w.2 ≠ v.2 * w.1 ∧ bf a b c v.1 v.2 w.1 w.2 = B)).map fun w => (v, w)) (n := 8) fun v => (by rw [List.length_map]; exact filt_len _ l2)
  unfold sameL
  omega
abbrev S_keeping : Spc := ⟨fun ds Q => ∃ a : Rat, ∃ b : Rat, ∃ c : Rat, ∃ N : Mq, ds = [cl (qf a b c (rv N).a (rv N).c) (bf a b c (rv N).a (rv N).c (rv N).b (rv N).d) (qf a b c (rv N).b (rv N).d)] ∧ (Sh a b c ∧ Un N ∧ Mz 90 N.a N.b N.c N.d ∧ Rz 40 (qf a b c (rv N).a (rv N).c) ∧ Rz 40 (bf a b c (rv N).a (rv N).c (rv N).b (rv N).d) ∧ Rz 40 (qf a b c (rv N).b (rv N).d)) ∧ Q (.ml (srt ((keepL a b c).map fun m => (cj N m).D))), fun _ _ _ kk_ ⟨a, b, c, N, e_, p_, q_⟩ => ⟨a, b, c, N, e_, p_, kk_ _ q_⟩⟩

theorem sc_keeping : FnScope ["cell", "f", "g", "basis", "short", "found", "one", "two", "inner"] ["cell"] (defScope s_keeping) := ⟨rfl, rfl, rfl, by decide +kernel, rfl, by decide +kernel, by decide +kernel⟩
theorem body_keeping (T : Txt K mg) (C_in_cell : Cal P w K mg base 5 "in_cell" S_in_cell []) (C_product : Cal P w K mg base 1 "product" S_product []) (C_reduced_basis : Cal P w K mg base 5 "reduced_basis" S_reduced_basis []) (C_reverse_matrix : Cal P w K mg base 1 "reverse_matrix" S_reverse_matrix []) (C_same_lengths : Cal P w K mg base 5 "same_lengths" S_same_lengths []) (C_whole_vector : Cal P w K mg base 3 "whole_vector" S_whole_vector []) {f : Addr} {cdv : Value} {A : Around} {outer : List Env} {s : Shared} {H : Hp} (hr : Room (5) (A.deeper (envOfC "keeping" (defScope s_keeping) s.heap.objs.size f cdv))) (ds : List D) (Q : O → Prop) (hS : (S_keeping).S ds Q) :
    WSs (cxOf CX0 P w K mg base ["cell", "f", "g", "basis", "short", "found", "one", "two", "inner"] "keeping" (defScope s_keeping) f cdv A outer s H E0).nox noX (defBody s_keeping) (slots 9 ds) { nx := fun _ => Q (.va .non), rt := Q } := by
  have sc := sc_keeping
  obtain ⟨a, b, c, N, rfl, ⟨hsh, hN, hNz, rA, rB, rC⟩, hQ⟩ := hS
  refine ws_norm (ρ' := [_, _, _, _, _, _, _, _, _]) rfl ?_
  have hpA : 0 < (qf a b c (rv N).a (rv N).c) := qf_pos hsh.p hsh.d (det_nz (Un.det (un_rv hN)))
  have hpD := told_d hsh.d (Un.det (un_rv hN))
  refine ws_cons ?_
  refine ws_unpackP (eo_cal (C_reduced_basis) (hr.mono (by decide)) (ea_cons (ee_var 0 rfl) ea_nil) (by exact ⟨_, _, _, rfl, ⟨⟨rA, rB, rC⟩, hpA, hpD⟩, fun o h => h⟩)) ?_
  rintro _ ⟨x, y, z, w, rfl, hdet, ⟨zx, zy, zz, zw⟩, B0, B1, B2⟩
  refine ⟨_, _, rfl, (at_tup (ats_cons (at_name 1 sc.nd) (ats_cons (at_name 2 sc.nd) ats_nil))), ?_⟩
  refine ws_norm (ρ' := [_, _, _, _, _, _, _, _, _]) rfl ?_
  obtain ⟨e1, e2, e3⟩ := final hsh (Un.det (un_rv hN)) hdet B0 B1 B2
  have hM : Un ⟨x, z, y, w⟩ := (by show x * w - z * y = 1 ∨ x * w - z * y = -1; rw [Int.mul_comm z y]; exact hdet)
  have hP := keep_aut hsh hN hM e1 e2 e3
  have hS := ((zx.mul zw).sub (zz.mul zy))
  have hSn := hS.neg
  have hra := hsh.ra
  have hrb := hsh.rb
  have hrc := hsh.rc
  refine ws_cons ?_
  refine ws_setE 3 (ee_tup (ea_cons (ee_ix (ee_var 1 rfl) ee_int rfl (by exact atI_at 0 rfl rfl)) (ea_cons (ee_ix (ee_var 2 rfl) ee_int rfl (by exact atI_at 0 rfl rfl)) (ea_cons (ee_ix (ee_var 1 rfl) ee_int rfl (by exact atI_at 1 rfl rfl)) (ea_cons (ee_ix (ee_var 2 rfl) ee_int rfl (by exact atI_at 1 rfl rfl)) ea_nil))))) ?_ sc.nd
  refine ws_norm (ρ' := [_, _, _, _, _, _, _, _, _]) rfl ?_
  refine ws_cons ?_
  refine ws_setE 4 (ee_cal (C_in_cell) (hr.mono (by decide)) (ea_cons (ee_var 0 rfl) (ea_cons (ee_cal (C_whole_vector) (hr.mono (by decide)) (ea_cons (ee_var 1 rfl) ea_nil) (by exact ⟨_, _, rfl, (by walk_at "tg pre"), rfl⟩)) (ea_cons (ee_cal (C_whole_vector) (hr.mono (by decide)) (ea_cons (ee_var 2 rfl) ea_nil) (by exact ⟨_, _, rfl, (by walk_at "tg pre"), rfl⟩)) ea_nil))) (by exact ⟨_, _, _, _, _, _, _, rfl, (by walk_at "tg pre"), rfl⟩)) ?_ sc.nd
  refine ws_norm (ρ' := [_, _, _, _, _, _, _, _, _]) rfl ?_
  refine ws_abs 4 (fun d => d = cl a b c) rfl (cl_congr e1 e2 e3) ?_
  rintro _ rfl
  refine ws_norm (ρ' := [_, _, _, _, _, _, _, _, _]) rfl ?_
  refine ws_cons ?_
  refine ws_setM 5 (eo_lst ea_nil) ?_ sc.nd
  refine ws_norm (ρ' := [_, _, _, _, _, _, _, _, _]) rfl ?_
  refine ws_cons ?_
  refine ws_forL (fun k ρ => ∃ l : List D, ρ = [.va (cl (qf a b c (rv N).a (rv N).c) (bf a b c (rv N).a (rv N).c (rv N).b (rv N).d) (qf a b c (rv N).b (rv N).d)), .va (vec x y), .va (vec z w), .va (mt x z y w), .va (cl a b c), .ml l, .un, .un, .un] ∧ l = ((sameL a b c a b c).take k).map fun p => (cj ⟨x, z, y, w⟩ (colM p)).D) (ee_lst (eo_cal (C_same_lengths) (hr.mono (by decide)) (ea_cons (ee_var 4 rfl) (ea_cons (ee_var 4 rfl) ea_nil)) (by exact ⟨_, _, _, _, _, _, rfl, (by walk_at "tg pre"), rfl⟩))) ?start6 nox_own ?turn6 ?fin6
  case start6 =>
    exact up_intro ⟨_, rfl, rfl⟩ (by walk_at "tg le")
  case turn6 =>
    intro k d ρ hk hR
    obtain ⟨l, rfl, hl⟩ := hR
    obtain ⟨hk', rfl⟩ := map_getK (f := enc2) (l := sameL a b c a b c) ((0, 0), (0, 0)) hk
    obtain ⟨⟨v1, v2⟩, v3, v4⟩ := same_small _ (getD_mem (x := ((0, 0), (0, 0))) hk')
    refine ⟨_, (at_tup (ats_cons (at_name 6 sc.nd) (ats_cons (at_name 7 sc.nd) ats_nil))), ?_⟩
    refine ws_norm (ρ' := [_, _, _, _, _, _, _, _, _]) rfl ?_
    refine ws_cons ?_
    refine ws_setE 8 (ee_cal (C_product) (hr.mono (by decide)) (ea_cons (ee_cal (C_reverse_matrix) (hr.mono (by decide)) (ea_cons (ee_var 3 rfl) ea_nil) (by exact ⟨_, _, _, _, _, rfl, (by walk_at "tg pre"), rfl⟩)) (ea_cons (ee_tup (ea_cons (ee_ix (ee_var 6 rfl) ee_int rfl (by exact atI_at 0 rfl rfl)) (ea_cons (ee_ix (ee_var 7 rfl) ee_int rfl (by exact atI_at 0 rfl rfl)) (ea_cons (ee_ix (ee_var 6 rfl) ee_int rfl (by exact atI_at 1 rfl rfl)) (ea_cons (ee_ix (ee_var 7 rfl) ee_int rfl (by exact atI_at 1 rfl rfl)) ea_nil))))) ea_nil)) (by exact ⟨_, _, _, _, _, _, _, _, _, _, rfl, (by walk_at "tg pre"), rfl⟩)) ?_ sc.nd
    refine ws_norm (ρ' := [_, _, _, _, _, _, _, _, _]) rfl ?_
    refine ws_one ?_
    refine ws_append 5 rfl (ee_cal (C_product) (hr.mono (by decide)) (ea_cons (ee_var 8 rfl) (ea_cons (ee_var 3 rfl) ea_nil)) (by exact ⟨_, _, _, _, _, _, _, _, _, _, rfl, (by walk_at "tg pre"), rfl⟩)) (by rw [hl, List.length_map]; exact line_of (Nat.le_trans (List.length_take_le' _ _) (Nat.le_trans same_len (by decide)))) ?_
    exact up_intro ⟨_, rfl, by rw [map_next (x := ((0, 0), (0, 0))) hk', ← hl] <;> rfl⟩ (by walk_at "tg le")
  case fin6 =>
    intro ρ hR
    obtain ⟨l, rfl, hl⟩ := hR
    rw [List.length_map, List.take_length] at hl
    refine ws_freeze 5 rfl ?_
    refine ws_norm (ρ' := [_, _, _, _, _, _, _, _, _]) rfl ?_
    refine ws_one ?_
    refine ws_ret (P := fun o => o = .ml _) (eo_sorted hr rfl T.m_sorted (ea_cons (ee_var 5 rfl) ea_nil) (by rw [hl]; exact plains_map (fun _ => rfl) _) (by rw [hl]; exact rows_map (fun _ _ => mq_alike _ _) fun _ => ⟨_, _, rfl⟩) (by rw [hl]; exact Nat.le_trans (depths_map (n := 1) fun _ => Nat.le_refl _) (by decide))) ?_
    rintro _ rfl
    rw [hl, keep_srt hsh hN hP]; exact hQ
theorem cal_keeping (T : Txt K mg) (C_in_cell : Cal P w K mg base 5 "in_cell" S_in_cell []) (C_product : Cal P w K mg base 1 "product" S_product []) (C_reduced_basis : Cal P w K mg base 5 "reduced_basis" S_reduced_basis []) (C_reverse_matrix : Cal P w K mg base 1 "reverse_matrix" S_reverse_matrix []) (C_same_lengths : Cal P w K mg base 5 "same_lengths" S_same_lengths []) (C_whole_vector : Cal P w K mg base 3 "whole_vector" S_whole_vector []) : Cal P w K mg base 6 "keeping" S_keeping [] :=
  cal_of (T.d_keeping.fn (P := P) (w := w) (base := base) (S := S_keeping) (k := 5) sc_keeping (fun ds Q h => by obtain ⟨_, _, _, _, rfl, _⟩ := h; rfl) fun f cdv A outer s H hr ds Q hS => body_keeping T C_in_cell C_product C_reduced_basis C_reverse_matrix C_same_lengths C_whole_vector hr ds Q hS) 0 (by decide) (fun G => .nil)
theorem divInt_pos {n d : Int} (hn : 0 < n) (hd : 0 < d) : 0 < Rat.divInt n d := by
  have h1 : (0 : Rat) < (n : Rat) := cast_lt hn
  have h2 : (0 : Rat) < (d : Rat) := cast_lt hd
  have h3 : Rat.divInt n d * (d : Rat) = (n : Rat) := by rw [rat_div]; exact Rat.div_mul_cancel (by grind)
  by_cases z : 0 < Rat.divInt n d
  · exact z
  · have := Rat.mul_nonneg (a := -(Rat.divInt n d)) (b := (d : Rat)) (by grind) (Rat.le_of_lt h2)
    grind
theorem den_mul_int {k : Nat} {p : Rat} {w : Int} (h : Sz k (p.den : Int)) : Sz k ((p * (w : Rat)).den : Int) := by
  refine den_of (t := p.num * w) (d := p.den) (rq_pos p) h ?_
  rw [Rat.intCast_mul, @rat_num p]
  grind
theorem wc_int {ns : List Int} (hn : 8 ≤ ns.length) (h : ∀ x ∈ ns, 0 ≤ x ∧ x < 1000) : ∃ w : Int, wcF ns = (w : Rat) ∧ 1 ≤ w ∧ Sz 13 w := by
  unfold wcF
  split
  · exact ⟨1, rfl, by decide, sz_lit rfl⟩
  · exact ⟨_, rfl, by have := getD_range (k := 7) h (by omega); omega, wc_num hn h⟩
theorem scT_le {ns : List Int} : 0 < scT ns ∧ 2 * scT ns ≤ 1 := by
  constructor
  · exact divInt_pos (by omega) (by decide)
  · unfold scT
    rw [rat_div]
    have h : 1 + ns.getD 5 0 % 5 ≤ 5 := by omega
    have h' := cast_le h
    have e12 : ((12 : Int) : Rat) = 12 := rfl
    have e5 : ((5 : Int) : Rat) = 5 := rfl
    rw [e12]; rw [e5] at h'
    generalize ((1 + ns.getD 5 0 % 5 : Int) : Rat) = t at h'
    grind
theorem sc_short {ns : List Int} : 0 < scA ns ∧ 0 ≤ scB ns ∧ 2 * scB ns ≤ scA ns ∧ scA ns ≤ scC ns := by
  have hA : 0 < scA ns := divInt_pos (by omega) (by omega)
  have hE : 0 < scE ns := divInt_pos (by omega) (by omega)
  obtain ⟨t1, t2⟩ := @scT_le ns
  have hH : scH = 1 / 2 := by unfold scH; rw [rat_div]; rfl
  refine ⟨hA, ?_, ?_, ?_⟩
  · unfold scB
    split
    · exact Rat.le_of_lt (Rat.mul_pos hA t1)
    · split
      · rw [hH]; grind
      · exact Rat.le_refl
  · unfold scB
    split
    · have := Rat.mul_nonneg (Rat.le_of_lt hA) (show 0 ≤ 1 - 2 * scT ns by grind)
      grind
    · split
      · rw [hH]; grind
      · grind
  · unfold scC
    split
    · grind
    · exact Rat.le_refl
theorem wide_sh {ns : List Int} (hn : 8 ≤ ns.length) (h : ∀ x ∈ ns, 0 ≤ x ∧ x < 1000) : Sh (scA ns * wcF ns) (scB ns * wcF ns) (scC ns * wcF ns) := by
  obtain ⟨w, e, h1, hs⟩ := wc_int hn h
  obtain ⟨s1, s2, s3, s4⟩ := @sc_short ns
  rw [e]
  have hw : (1 : Rat) ≤ (w : Rat) := by have := cast_le h1; rwa [Rat.intCast_one] at this
  have hw0 : (0 : Rat) < (w : Rat) := by grind
  have rw' : Rz 13 (w : Rat) := rz_int hs
  refine ⟨Rat.mul_pos s1 hw0, Rat.mul_nonneg s2 (Rat.le_of_lt hw0), ?_, ?_, ((scA_sz ns).mul rw').mono (by decide), ((scB_sz ns).mul rw').mono (by decide), ((scC_sz ns).mul rw').mono (by decide), den_mul_int (scA_sz ns).den, den_mul_int (scB_sz ns).den, den_mul_int (scC_sz ns).den⟩
  · have := Rat.mul_nonneg (show 0 ≤ scA ns - 2 * scB ns by grind) (Rat.le_of_lt hw0)
    grind
  · have := Rat.mul_nonneg (show 0 ≤ scC ns - scA ns by grind) (Rat.le_of_lt hw0)
    grind
theorem rev_det {p q r s : Int} (hd : p * s - q * r = 1 ∨ p * s - q * r = -1) : ((p * s - q * r) * s) * ((p * s - q * r) * p) - (0 - (p * s - q * r) * r) * (0 - (p * s - q * r) * q) = 1 ∨ ((p * s - q * r) * s) * ((p * s - q * r) * p) - (0 - (p * s - q * r) * r) * (0 - (p * s - q * r) * q) = -1 := by
  have e : ((p * s - q * r) * s) * ((p * s - q * r) * p) - (0 - (p * s - q * r) * r) * (0 - (p * s - q * r) * q) = (p * s - q * r) * (p * s - q * r) * (p * s - q * r) := by grind
  rw [e]
  rcases hd with h | h <;> rw [h]
  · exact .inl (by decide)
  · exact .inr (by decide)
theorem tup_isA {ds : List D} : (D.tup ds).isA "tuple" = true := rfl
theorem four_get {x y z w : Int} {k : Nat} {d : D} (h : ([D.int x, .int y] ++ [.int z, .int w])[k]? = some d) : ∃ i, d = .int i := by
  have h' : ([x, y, z, w].map D.int)[k]? = some d := h
  obtain ⟨_, e⟩ := map_getK 0 h'
  exact ⟨_, e⟩

theorem zsub (x y : Int) : 0 - x * y = -x * y := by rw [Int.zero_sub, Int.neg_mul]
theorem due_ok {k : Nat} {a b c : Rat} {N : Mq} (h : Sh0 a b c) (ha : Rz k a) (hb : Rz k b) (hc : Rz k c) : ∃ L : List Mq, srt ((keepL a b c).map fun m => (cj N m).D) = L.map Mq.D ∧ L.length ∈ [2, 4, 8, 12] ∧ ∀ m ∈ L, ∃ k, Aut a b c k ∧ Sm k ∧ m = cj N k := by
  have e : ((keepL a b c).map fun m => (cj N m).D) = ((keepL a b c).map (cj N)).map Mq.D := by rw [List.map_map]; rfl
  refine ⟨_, by rw [e]; exact srt_map _, ?_, fun m hm => ?_⟩
  · rw [List.length_mergeSort, List.length_map]
    exact keep_count h ha hb hc
  · obtain ⟨k, hk, rfl⟩ := List.mem_map.mp (List.mem_mergeSort.mp hm)
    exact ⟨k, (keep_mem h).mp hk, (small_sm (List.mem_filter.mp hk).1).1, rfl⟩
theorem told_aut {a b c : Rat} {N k : Mq} (hN : Un N) (h : Aut a b c k) : Aut (qf a b c (rv N).a (rv N).c) (bf a b c (rv N).a (rv N).c (rv N).b (rv N).d) (qf a b c (rv N).b (rv N).d) (cj N k) := by
  have e : tn (cj N k) (rv N) = tn (rv N) k := by
    unfold cj
    rw [tn_assoc, tn_rv hN, tn_one]
  have e1 := congrArg Mq.a e
  have e2 := congrArg Mq.b e
  have e3 := congrArg Mq.c e
  have e4 := congrArg Mq.d e
  simp only [tn] at e1 e2 e3 e4
  refine ⟨?_, ?_, ?_⟩
  · rw [comp_qf]
    rw [e1, e3]
    exact h.qf _ _
  · rw [comp_bf]
    rw [e1, e2, e3, e4]
    exact h.bf _ _ _ _
  · rw [comp_qf]
    rw [e2, e4]
    exact h.qf _ _
theorem tn_sz {i j : Nat} {m n : Mq} (h : Mz i m.a m.b m.c m.d) (k : Mz j n.a n.b n.c n.d) : Mz (i + j + 1) (tn m n).a (tn m n).b (tn m n).c (tn m n).d :=
  ⟨((k.1.mul h.1).add (k.2.1.mul h.2.2.1)).mono (by omega), ((k.1.mul h.2.1).add (k.2.1.mul h.2.2.2)).mono (by omega), ((k.2.2.1.mul h.1).add (k.2.2.2.mul h.2.2.1)).mono (by omega), ((k.2.2.1.mul h.2.1).add (k.2.2.2.mul h.2.2.2)).mono (by omega)⟩
theorem cj_sz {N k : Mq} (hN : Mz 90 N.a N.b N.c N.d) (hR : Mz 91 (rv N).a (rv N).b (rv N).c (rv N).d) (hk : Mz 2 k.a k.b k.c k.d) : Mz 250 (cj N k).a (cj N k).b (cj N k).c (cj N k).d := (tn_sz (tn_sz hR hk) hN).mono (by decide)
theorem cnt_int {n : Nat} (h : n ∈ [2, 4, 8, 12]) : ((n : Nat) : Int) ∈ ([2, 4, 8, 12] : List Int) := by
  simp only [List.mem_cons, List.not_mem_nil, or_false] at h ⊢
  omega
theorem sc_law : FnScope ["script", "k", "numbers", "short", "matrix", "cell", "due", "m", "told"] ["script"] (defScope s_law) := ⟨rfl, rfl, rfl, by decide +kernel, rfl, by decide +kernel, by decide +kernel⟩
theorem body_law (T : Txt K mg) (C__law_cell : Cal P w K mg base 1 "_law_cell" S__law_cell []) (C__law_keepers : Cal P w K mg base 7 "_law_keepers" S__law_keepers []) (C__law_long_axes : Cal P w K mg base 7 "_law_long_axes" S__law_long_axes []) (C__law_numbers : Cal P w K mg base 1 "_law_numbers" S__law_numbers []) (C__law_other_cell : Cal P w K mg base 6 "_law_other_cell" S__law_other_cell []) (C__law_product : Cal P w K mg base 1 "_law_product" S__law_product []) (C__law_reverse : Cal P w K mg base 2 "_law_reverse" S__law_reverse []) (C__law_same : Cal P w K mg base 9 "_law_same" S8 []) (C__law_wide_cell : Cal P w K mg base 5 "_law_wide_cell" S__law_wide_cell []) (C_keeping : Cal P w K mg base 6 "keeping" S_keeping []) {f : Addr} {cdv : Value} {A : Around} {outer : List Env} {s : Shared} {H : Hp} (hr : Room (9) (A.deeper (envOfC "law" (defScope s_law) s.heap.objs.size f cdv))) (ds : List D) (Q : O → Prop) (hS : (lawS).S ds Q) :
    WSs (cxOf CX0 P w K mg base ["script", "k", "numbers", "short", "matrix", "cell", "due", "m", "told"] "law" (defScope s_law) f cdv A outer s H E0).nox noX (defBody s_law) (slots 9 ds) { nx := fun _ => Q (.va .non), rt := Q } := by
  have sc := sc_law
  obtain ⟨ns, rfl, hns, hQ⟩ := hS
  refine ws_norm (ρ' := [_, _, _, _, _, _, _, _, _]) rfl ?_
  refine ws_cons ?_
  refine ws_forR (fun k ρ => ρ = [.va (.lst (ns.map .int)), .un, .un, .un, .un, .un, .un, .un, .un]) T.m_range (ea_cons ee_int ea_nil) ?start2 nox_own ?turn2 ?fin2 (by decide)
  case start2 =>
    exact Up.of rfl
  case turn2 =>
    intro k ρ hk hR
    subst hR
    refine ⟨_, (at_name 1 sc.nd), ?_⟩
    refine ws_norm (ρ' := [_, _, _, _, _, _, _, _, _]) rfl ?_
    refine ws_cons ?_
    refine ws_setM 2 (eo_cal (C__law_numbers) (hr.mono (by decide)) (ea_cons (ee_add (ee_cal (C__law_cell) (hr.mono (by decide)) (ea_cons (ee_var 0 rfl) (ea_cons (ee_var 1 rfl) ea_nil)) (by exact ⟨_, _, rfl, (by walk_at "tg pre"), rfl⟩)) (ee_var 1 rfl)) (ea_cons ee_int ea_nil)) (by exact ⟨_, 26, rfl, by decide, rfl⟩)) ?_ sc.nd
    refine ws_norm (ρ' := [_, _, _, _, _, _, _, _, _]) rfl ?_
    refine ws_freeze 2 rfl ?_
    refine ws_norm (ρ' := [_, _, _, _, _, _, _, _, _]) rfl ?_
    refine ws_abs 2 (fun d => ∃ xs : List Int, d = .lst (xs.map .int) ∧ xs.length = 26 ∧ ∀ x ∈ xs, 0 ≤ x ∧ x < 1000) rfl (⟨_, rfl, nums_len _ _, nums_range _ _⟩) ?_
    rintro _ ⟨xs, rfl, hxl, hxs⟩
    refine ws_norm (ρ' := [_, _, _, _, _, _, _, _, _]) rfl ?_
    refine ws_cons ?_
    refine ws_setE 3 (ee_cal (C__law_wide_cell) (hr.mono (by decide)) (ea_cons (ee_var 2 rfl) ea_nil) (by exact ⟨_, rfl, ⟨by omega, hxs⟩, rfl⟩)) ?_ sc.nd
    refine ws_norm (ρ' := [_, _, _, _, _, _, _, _, _]) rfl ?_
    refine ws_abs 3 (fun d => ∃ a b c : Rat, d = cl a b c ∧ Sh a b c) rfl (⟨_, _, _, rfl, wide_sh (by omega) hxs⟩) ?_
    rintro _ ⟨a, b, c, rfl, hsh⟩
    have hra := hsh.ra
    have hrb := hsh.rb
    have hrc := hsh.rc
    refine ws_norm (ρ' := [_, _, _, _, _, _, _, _, _]) rfl ?_
    refine ws_cons ?_
    refine ws_set 4 (eo_cal (C__law_long_axes) (hr.mono (by decide)) (ea_cons (ee_var 3 rfl) (ea_cons (ee_lst (eo_slL (ee_var 2 rfl) (ep_some ee_int) ep_none (by exact cut_ints 8 rfl (by omega)))) ea_nil)) (by exact ⟨_, _, _, _, rfl, ⟨⟨hsh.ra, hsh.rb, hsh.rc⟩, ⟨hsh.da, hsh.db, hsh.dc⟩, by rw [List.length_drop]; omega⟩, fun o h => h⟩)) ?_ sc.nd
    rintro _ ⟨p, q, r, s, rfl, hla⟩
    refine ws_norm (ρ' := [_, _, _, _, _, _, _, _, _]) rfl ?_
    obtain ⟨zp, zq, zr, zs⟩ := id hla.z
    have hN : Un (⟨p, q, r, s⟩ : Mq) := hla.det
    have hz1 := zsub (p * s - q * r) q
    have hz2 := zsub (p * s - q * r) r
    have tA := hla.tA
    have tB := hla.tB
    have tC := hla.tC
    rw [hz2] at tA
    rw [hz1, hz2] at tB
    rw [hz1] at tC
    have hrz := rev_sz hla.z hla.det
    have hrz' := hrz
    rw [hz1, hz2] at hrz'
    refine ws_cons ?_
    refine ws_setE 5 (ee_cal (C__law_other_cell) (hr.mono (by decide)) (ea_cons (ee_var 3 rfl) (ea_cons (ee_cal (C__law_reverse) (hr.mono (by decide)) (ea_cons (ee_var 4 rfl) ea_nil) (by exact ⟨_, _, _, _, rfl, hla.z.mono (by decide), rfl⟩)) ea_nil)) (by exact ⟨_, _, _, _, _, _, _, rfl, ⟨⟨hra.mono (by decide), hrb.mono (by decide), hrc.mono (by decide)⟩, hrz.mono (by decide)⟩, rfl⟩)) ?_ sc.nd
    refine ws_norm (ρ' := [_, _, _, _, _, _, _, _, _]) rfl ?_
    refine ws_abs 5 (fun d => d = cl (qf a b c (rv (⟨p, q, r, s⟩ : Mq)).a (rv (⟨p, q, r, s⟩ : Mq)).c) (bf a b c (rv (⟨p, q, r, s⟩ : Mq)).a (rv (⟨p, q, r, s⟩ : Mq)).c (rv (⟨p, q, r, s⟩ : Mq)).b (rv (⟨p, q, r, s⟩ : Mq)).d) (qf a b c (rv (⟨p, q, r, s⟩ : Mq)).b (rv (⟨p, q, r, s⟩ : Mq)).d)) rfl (by rw [hz1, hz2]; rfl) ?_
    rintro _ rfl
    refine ws_norm (ρ' := [_, _, _, _, _, _, _, _, _]) rfl ?_
    refine ws_cons ?_
    refine ws_setM 6 (eo_lst ea_nil) ?_ sc.nd
    refine ws_norm (ρ' := [_, _, _, _, _, _, _, _, _]) rfl ?_
    refine ws_cons ?_
    refine ws_forL (fun k' ρ => ∃ l : List D, ρ = [.va (.lst (ns.map .int)), .va (.int (k : Int)), .va (.lst (xs.map .int)), .va (cl a b c), .va (mt p q r s), .va (cl (qf a b c (rv (⟨p, q, r, s⟩ : Mq)).a (rv (⟨p, q, r, s⟩ : Mq)).c) (bf a b c (rv (⟨p, q, r, s⟩ : Mq)).a (rv (⟨p, q, r, s⟩ : Mq)).c (rv (⟨p, q, r, s⟩ : Mq)).b (rv (⟨p, q, r, s⟩ : Mq)).d) (qf a b c (rv (⟨p, q, r, s⟩ : Mq)).b (rv (⟨p, q, r, s⟩ : Mq)).d)), .ml l, .un, .un] ∧ l = ((keepL a b c).take k').map fun m => (cj (⟨p, q, r, s⟩ : Mq) m).D) (ee_lst (eo_cal (C__law_keepers) (hr.mono (by decide)) (ea_cons (ee_var 3 rfl) ea_nil) (by exact ⟨_, _, _, rfl, ⟨hra, hrb, hrc⟩, rfl⟩))) ?start8 nox_own ?turn8 ?fin8
    case start8 =>
      exact up_intro ⟨_, rfl, rfl⟩ (by walk_at "tg le")
    case turn8 =>
      intro k' d ρ hk2 hR
      obtain ⟨l, rfl, hl⟩ := hR
      obtain ⟨hk', rfl⟩ := map_getK (f := Mq.D) (l := keepL a b c) oneq hk2
      obtain ⟨s1, s2, s3, s4⟩ := sm_sz (small_sm (List.mem_filter.mp (getD_mem (x := oneq) hk')).1).1
      refine ⟨_, (at_name 7 sc.nd), ?_⟩
      refine ws_norm (ρ' := [_, _, _, _, _, _, _, _, _]) rfl ?_
      refine ws_one ?_
      refine ws_append 6 rfl (ee_cal (C__law_product) (hr.mono (by decide)) (ea_cons (ee_cal (C__law_product) (hr.mono (by decide)) (ea_cons (ee_cal (C__law_reverse) (hr.mono (by decide)) (ea_cons (ee_var 4 rfl) ea_nil) (by exact ⟨_, _, _, _, rfl, hla.z.mono (by decide), rfl⟩)) (ea_cons (ee_var 7 rfl) ea_nil)) (by exact ⟨_, _, _, _, _, _, _, _, _, _, rfl, (by walk_at "tg pre"), rfl⟩)) (ea_cons (ee_var 4 rfl) ea_nil)) (by exact ⟨_, _, _, _, _, _, _, _, _, _, rfl, (by walk_at "tg pre"), rfl⟩)) (by rw [hl, List.length_map]; exact line_of (Nat.le_trans (List.length_take_le' _ _) (Nat.le_trans (List.length_filter_le _ _) (by decide +kernel)))) ?_
      refine up_intro ⟨_, rfl, ?_⟩ (by walk_at "tg le")
      rw [map_next (x := oneq) hk', ← hl, hz1, hz2]; rfl
    case fin8 =>
      intro ρ hR
      obtain ⟨l, rfl, hl⟩ := hR
      rw [List.length_map, List.take_length] at hl
      refine ws_freeze 6 rfl ?_
      refine ws_norm (ρ' := [_, _, _, _, _, _, _, _, _]) rfl ?_
      refine ws_cons ?_
      refine ws_setM 6 (eo_sorted hr rfl T.m_sorted (ea_cons (ee_var 6 rfl) ea_nil) (by rw [hl]; exact plains_map (fun _ => rfl) _) (by rw [hl]; exact rows_map (fun _ _ => mq_alike _ _) fun _ => ⟨_, _, rfl⟩) (by rw [hl]; exact Nat.le_trans (depths_map (n := 1) fun _ => Nat.le_refl _) (by decide))) ?_ sc.nd
      refine ws_norm (ρ' := [_, _, _, _, _, _, _, _, _]) rfl ?_
      refine ws_freeze 6 rfl ?_
      refine ws_norm (ρ' := [_, _, _, _, _, _, _, _, _]) rfl ?_
      refine ws_abs 6 (fun d => ∃ L : List Mq, d = .lst (L.map Mq.D) ∧ srt ((keepL a b c).map fun m => (cj (⟨p, q, r, s⟩ : Mq) m).D) = L.map Mq.D ∧ L.length ∈ [2, 4, 8, 12] ∧ ∀ m ∈ L, ∃ k, Aut a b c k ∧ Sm k ∧ m = cj (⟨p, q, r, s⟩ : Mq) k) rfl (by rw [hl]; obtain ⟨L, h1, h2⟩ := due_ok (N := (⟨p, q, r, s⟩ : Mq)) hsh.to0 hra hrb hrc; exact ⟨L, congrArg D.lst h1, h1, h2⟩) ?_
      rintro _ ⟨L, rfl, hL, hcnt, hLm⟩
      clear hl
      refine ws_norm (ρ' := [_, _, _, _, _, _, _, _, _]) rfl ?_
      refine ws_cons ?_
      refine ws_setM 8 (eo_cal (C_keeping) (hr.mono (by decide)) (ea_cons (ee_var 5 rfl) ea_nil) (by exact ⟨a, b, c, (⟨p, q, r, s⟩ : Mq), rfl, ⟨hsh, hN, hla.z, tA.mono (by decide), tB.mono (by decide), tC.mono (by decide)⟩, rfl⟩)) ?_ sc.nd
      refine ws_norm (ρ' := [_, _, _, _, _, _, _, _, _]) rfl ?_
      rw [hL]
      refine ws_cons ?_
      refine ws_if (et_bor 8 rfl (EW.et (ew_or (et_not (et_val (ee_cal (C__law_same) (hr.mono (by decide)) (ea_cons (ee_var 8 rfl) (ea_cons (ee_var 6 rfl) ea_nil)) (by exact ⟨_, rfl, mq_same L, rfl⟩)))) (fun hv => (ew_or1 (et_nin (ee_len rfl T.m_len (ea_cons (ee_var 6 rfl) ea_nil) rfl) (ee_lst (eo_lst (ea_cons ee_int (ea_cons ee_int (ea_cons ee_int (ea_cons ee_int ea_nil)))))) rfl)))))) (fun h12 => ?_) (fun h12 => ?_)
      · skip
        rw [show ([D.int 2, D.int 4, D.int 8, D.int 12].any fun y => D.eqv y (.int ((L.map Mq.D).length : Nat))) = true from (any_ints (ns := [2, 4, 8, 12])).trans (decide_eq_true (by rw [List.length_map]; exact cnt_int hcnt))] at h12
        exact absurd h12 (by decide)
      · skip
        refine ws_nil ?_
        refine ws_cons ?_
        refine ws_forL (fun _ ρ => ρ = [.va (.lst (ns.map .int)), .va (.int (k : Int)), .va (.lst (xs.map .int)), .va (cl a b c), .va (mt p q r s), .va (cl (qf a b c (rv (⟨p, q, r, s⟩ : Mq)).a (rv (⟨p, q, r, s⟩ : Mq)).c) (bf a b c (rv (⟨p, q, r, s⟩ : Mq)).a (rv (⟨p, q, r, s⟩ : Mq)).c (rv (⟨p, q, r, s⟩ : Mq)).b (rv (⟨p, q, r, s⟩ : Mq)).d) (qf a b c (rv (⟨p, q, r, s⟩ : Mq)).b (rv (⟨p, q, r, s⟩ : Mq)).d)), .va (.lst (L.map Mq.D)), .un, .ml (L.map Mq.D)]) (ee_var 6 rfl) ?start14 nox_own ?turn14 ?fin14
        case start14 =>
          exact up_intro rfl (by walk_at "tg le")
        case turn14 =>
          intro k' d ρ hk2 hR
          subst hR
          obtain ⟨hk', rfl⟩ := map_getK (f := Mq.D) (l := L) oneq hk2
          obtain ⟨m0, hm0, hs0, e0⟩ := hLm _ (getD_mem (x := oneq) hk')
          obtain ⟨s1, s2, s3, s4⟩ := sm_sz hs0
          have hau := told_aut hN hm0
          rw [← e0] at hau
          refine ⟨_, (at_name 7 sc.nd), ?_⟩
          refine ws_norm (ρ' := [_, _, _, _, _, _, _, _, _]) rfl ?_
          refine ws_one ?_
          refine ws_if (et_ne hr.units (ee_cal (C__law_other_cell) (hr.mono (by decide)) (ea_cons (ee_var 5 rfl) (ea_cons (ee_var 7 rfl) ea_nil)) (by exact ⟨_, _, _, _, _, _, _, rfl, ⟨⟨tA.mono (by decide), tB.mono (by decide), tC.mono (by decide)⟩, by rw [e0]; exact cj_sz (N := (⟨p, q, r, s⟩ : Mq)) hla.z hrz' ⟨s1, s2, s3, s4⟩⟩, rfl⟩)) (ee_var 5 rfl) (by walk_at "tg cmp") (by walk_at "tg cmp")) (fun h15 => ?_) (fun h15 => ?_)
          · skip
            exact absurd (h15.symm.trans (congrArg not ((cl_eqv _ _ _ _ _ _).trans (decide_eq_true ⟨hau.f, hau.h, hau.g⟩)))) (by decide)
          · skip
            refine ws_nil ?_
            exact up_intro rfl (by walk_at "tg le")
        case fin14 =>
          intro ρ hR
          subst hR
          refine ws_cons ?_
          refine ws_clear 8 rfl ?_
          refine ws_norm (ρ' := [_, _, _, _, _, _, _, _, _]) rfl ?_
          refine ws_one ?_
          refine ws_if (et_not (et_val (ee_cal (C__law_same) (hr.mono (by decide)) (ea_cons (ee_lst (eo_cal (C_keeping) (hr.mono (by decide)) (ea_cons (ee_var 5 rfl) ea_nil) (by exact ⟨a, b, c, (⟨p, q, r, s⟩ : Mq), rfl, ⟨hsh, hN, hla.z, tA.mono (by decide), tB.mono (by decide), tC.mono (by decide)⟩, rfl⟩))) (ea_cons (ee_var 6 rfl) ea_nil)) (by exact ⟨.lst (L.map Mq.D), by rw [hL]; rfl, mq_same L, rfl⟩)))) (fun h18 => ?_) (fun h18 => ?_)
          · skip
            exact absurd h18 (by decide)
          · skip
            refine ws_nil ?_
            exact up_intro rfl (by walk_at "tg le")
  case fin2 =>
    intro ρ hR
    subst hR
    refine ws_one ?_
    refine ws_retE ee_bl ?_
    walk_at "tg return"
theorem all_mk {l : PySem.W.OpenLaw} {w : World} {K : PySem.W.Frag} {h : Heap} {mg : Str → Option Value} {fa : Addr} (X : K.In h) (G : h.Ns mainGlobals mg) (hfa : mg "law" = some (.ref fa))
    {k_ZERO_0 : Tok}
    {k_ZERO_1 : Tok}
    {k_ZERO : Addr} {k_ZEROo : Option Addr} {k_ZEROn : Nat} {k_ZEROs : Array (Option Value)}
    (lk_ZERO : K.lookup k_ZERO = some ⟨.type "tuple", k_ZEROo, .seq (List.toArray [.int 0 k_ZERO_0, .int 1 k_ZERO_1]) k_ZEROn, k_ZEROs⟩)
    (aK_ZERO : PySem.W.nsIn K mainGlobals "ZERO" = some (some (.ref k_ZERO)))
    {k_STEPS_0_0 : Tok}
    {k_STEPS_0_1 : Tok}
    {k_STEPS_0 : Addr} {k_STEPS_0o : Option Addr} {k_STEPS_0n : Nat} {k_STEPS_0s : Array (Option Value)}
    (lk_STEPS_0 : K.lookup k_STEPS_0 = some ⟨.type "tuple", k_STEPS_0o, .seq (List.toArray [.int 1 k_STEPS_0_0, .int 0 k_STEPS_0_1]) k_STEPS_0n, k_STEPS_0s⟩)
    {k_STEPS_1_0 : Tok}
    {k_STEPS_1_1 : Tok}
    {k_STEPS_1 : Addr} {k_STEPS_1o : Option Addr} {k_STEPS_1n : Nat} {k_STEPS_1s : Array (Option Value)}
    (lk_STEPS_1 : K.lookup k_STEPS_1 = some ⟨.type "tuple", k_STEPS_1o, .seq (List.toArray [.int 0 k_STEPS_1_0, .int 1 k_STEPS_1_1]) k_STEPS_1n, k_STEPS_1s⟩)
    {k_STEPS_2_0 : Tok}
    {k_STEPS_2_1 : Tok}
    {k_STEPS_2 : Addr} {k_STEPS_2o : Option Addr} {k_STEPS_2n : Nat} {k_STEPS_2s : Array (Option Value)}
    (lk_STEPS_2 : K.lookup k_STEPS_2 = some ⟨.type "tuple", k_STEPS_2o, .seq (List.toArray [.int 1 k_STEPS_2_0, .int 1 k_STEPS_2_1]) k_STEPS_2n, k_STEPS_2s⟩)
    {k_STEPS_3_0 : Tok}
    {k_STEPS_3_1 : Tok}
    {k_STEPS_3 : Addr} {k_STEPS_3o : Option Addr} {k_STEPS_3n : Nat} {k_STEPS_3s : Array (Option Value)}
    (lk_STEPS_3 : K.lookup k_STEPS_3 = some ⟨.type "tuple", k_STEPS_3o, .seq (List.toArray [.int 1 k_STEPS_3_0, .int (-1) k_STEPS_3_1]) k_STEPS_3n, k_STEPS_3s⟩)
    {k_STEPS_4_0 : Tok}
    {k_STEPS_4_1 : Tok}
    {k_STEPS_4 : Addr} {k_STEPS_4o : Option Addr} {k_STEPS_4n : Nat} {k_STEPS_4s : Array (Option Value)}
    (lk_STEPS_4 : K.lookup k_STEPS_4 = some ⟨.type "tuple", k_STEPS_4o, .seq (List.toArray [.int (-1) k_STEPS_4_0, .int 1 k_STEPS_4_1]) k_STEPS_4n, k_STEPS_4s⟩)
    {k_STEPS_5_0 : Tok}
    {k_STEPS_5_1 : Tok}
    {k_STEPS_5 : Addr} {k_STEPS_5o : Option Addr} {k_STEPS_5n : Nat} {k_STEPS_5s : Array (Option Value)}
    (lk_STEPS_5 : K.lookup k_STEPS_5 = some ⟨.type "tuple", k_STEPS_5o, .seq (List.toArray [.int (-1) k_STEPS_5_0, .int 0 k_STEPS_5_1]) k_STEPS_5n, k_STEPS_5s⟩)
    {k_STEPS_6_0 : Tok}
    {k_STEPS_6_1 : Tok}
    {k_STEPS_6 : Addr} {k_STEPS_6o : Option Addr} {k_STEPS_6n : Nat} {k_STEPS_6s : Array (Option Value)}
    (lk_STEPS_6 : K.lookup k_STEPS_6 = some ⟨.type "tuple", k_STEPS_6o, .seq (List.toArray [.int 0 k_STEPS_6_0, .int (-1) k_STEPS_6_1]) k_STEPS_6n, k_STEPS_6s⟩)
    {k_STEPS_7_0 : Tok}
    {k_STEPS_7_1 : Tok}
    {k_STEPS_7 : Addr} {k_STEPS_7o : Option Addr} {k_STEPS_7n : Nat} {k_STEPS_7s : Array (Option Value)}
    (lk_STEPS_7 : K.lookup k_STEPS_7 = some ⟨.type "tuple", k_STEPS_7o, .seq (List.toArray [.int (-1) k_STEPS_7_0, .int (-1) k_STEPS_7_1]) k_STEPS_7n, k_STEPS_7s⟩)
    {k_STEPS : Addr} {k_STEPSo : Option Addr} {k_STEPSn : Nat} {k_STEPSs : Array (Option Value)}
    (lk_STEPS : K.lookup k_STEPS = some ⟨.type "tuple", k_STEPSo, .seq (List.toArray [.ref k_STEPS_0, .ref k_STEPS_1, .ref k_STEPS_2, .ref k_STEPS_3, .ref k_STEPS_4, .ref k_STEPS_5, .ref k_STEPS_6, .ref k_STEPS_7]) k_STEPSn, k_STEPSs⟩)
    (aK_STEPS : PySem.W.nsIn K mainGlobals "STEPS" = some (some (.ref k_STEPS)))
    {f0 : Addr} {od0 an0 : Option Addr} {sl0 : Array (Option Value)} {oc0 kV0 dc0 pm0 cd0 ct0 : Value}
    (a0 : PySem.W.nsIn K mainGlobals "common_divisor" = some (some (.ref f0)))
    (l0 : K.lookup f0 = some ⟨oc0, od0, .func (PySem.W.fnOf "common_divisor" "common_divisor" (defArgs s_common_divisor) (defBody s_common_divisor) (defScope s_common_divisor) .none kV0 dc0 pm0 an0 cd0 ct0), sl0⟩)
    (c0 : PySem.W.codeIn K cd0 "common_divisor" = true) (k0 : PySem.W.keepIn K (.ref f0) = true)
    {f1 : Addr} {od1 an1 : Option Addr} {sl1 : Array (Option Value)} {oc1 kV1 dc1 pm1 cd1 ct1 : Value}
    (a1 : PySem.W.nsIn K mainGlobals "fraction" = some (some (.ref f1)))
    {dV1 : Addr} {tc1 : Value} {td1 : Option Addr} {tn1 : Nat} {ts1 : Array (Option Value)} {tk1 : Nat}
    (l1 : K.lookup f1 = some ⟨oc1, od1, .func (PySem.W.fnOf "fraction" "fraction" (defArgs s_fraction) (defBody s_fraction) (defScope s_fraction) (.ref dV1) kV1 dc1 pm1 an1 cd1 ct1), sl1⟩)
    (t1 : K.lookup dV1 = some ⟨tc1, td1, .seq (List.toArray [.int 1 tk1]) tn1, ts1⟩)
    (c1 : PySem.W.codeIn K cd1 "fraction" = true) (k1 : PySem.W.keepIn K (.ref f1) = true)
    {f2 : Addr} {od2 an2 : Option Addr} {sl2 : Array (Option Value)} {oc2 kV2 dc2 pm2 cd2 ct2 : Value}
    (a2 : PySem.W.nsIn K mainGlobals "plus" = some (some (.ref f2)))
    (l2 : K.lookup f2 = some ⟨oc2, od2, .func (PySem.W.fnOf "plus" "plus" (defArgs s_plus) (defBody s_plus) (defScope s_plus) .none kV2 dc2 pm2 an2 cd2 ct2), sl2⟩)
    (c2 : PySem.W.codeIn K cd2 "plus" = true) (k2 : PySem.W.keepIn K (.ref f2) = true)
    {f3 : Addr} {od3 an3 : Option Addr} {sl3 : Array (Option Value)} {oc3 kV3 dc3 pm3 cd3 ct3 : Value}
    (a3 : PySem.W.nsIn K mainGlobals "times" = some (some (.ref f3)))
    (l3 : K.lookup f3 = some ⟨oc3, od3, .func (PySem.W.fnOf "times" "times" (defArgs s_times) (defBody s_times) (defScope s_times) .none kV3 dc3 pm3 an3 cd3 ct3), sl3⟩)
    (c3 : PySem.W.codeIn K cd3 "times" = true) (k3 : PySem.W.keepIn K (.ref f3) = true)
    {f4 : Addr} {od4 an4 : Option Addr} {sl4 : Array (Option Value)} {oc4 kV4 dc4 pm4 cd4 ct4 : Value}
    (a4 : PySem.W.nsIn K mainGlobals "divided" = some (some (.ref f4)))
    (l4 : K.lookup f4 = some ⟨oc4, od4, .func (PySem.W.fnOf "divided" "divided" (defArgs s_divided) (defBody s_divided) (defScope s_divided) .none kV4 dc4 pm4 an4 cd4 ct4), sl4⟩)
    (c4 : PySem.W.codeIn K cd4 "divided" = true) (k4 : PySem.W.keepIn K (.ref f4) = true)
    {f5 : Addr} {od5 an5 : Option Addr} {sl5 : Array (Option Value)} {oc5 kV5 dc5 pm5 cd5 ct5 : Value}
    (a5 : PySem.W.nsIn K mainGlobals "less" = some (some (.ref f5)))
    (l5 : K.lookup f5 = some ⟨oc5, od5, .func (PySem.W.fnOf "less" "less" (defArgs s_less) (defBody s_less) (defScope s_less) .none kV5 dc5 pm5 an5 cd5 ct5), sl5⟩)
    (c5 : PySem.W.codeIn K cd5 "less" = true) (k5 : PySem.W.keepIn K (.ref f5) = true)
    {f6 : Addr} {od6 an6 : Option Addr} {sl6 : Array (Option Value)} {oc6 kV6 dc6 pm6 cd6 ct6 : Value}
    (a6 : PySem.W.nsIn K mainGlobals "product" = some (some (.ref f6)))
    (l6 : K.lookup f6 = some ⟨oc6, od6, .func (PySem.W.fnOf "product" "product" (defArgs s_product) (defBody s_product) (defScope s_product) .none kV6 dc6 pm6 an6 cd6 ct6), sl6⟩)
    (c6 : PySem.W.codeIn K cd6 "product" = true) (k6 : PySem.W.keepIn K (.ref f6) = true)
    {f7 : Addr} {od7 an7 : Option Addr} {sl7 : Array (Option Value)} {oc7 kV7 dc7 pm7 cd7 ct7 : Value}
    (a7 : PySem.W.nsIn K mainGlobals "reverse_matrix" = some (some (.ref f7)))
    (l7 : K.lookup f7 = some ⟨oc7, od7, .func (PySem.W.fnOf "reverse_matrix" "reverse_matrix" (defArgs s_reverse_matrix) (defBody s_reverse_matrix) (defScope s_reverse_matrix) .none kV7 dc7 pm7 an7 cd7 ct7), sl7⟩)
    (c7 : PySem.W.codeIn K cd7 "reverse_matrix" = true) (k7 : PySem.W.keepIn K (.ref f7) = true)
    {f8 : Addr} {od8 an8 : Option Addr} {sl8 : Array (Option Value)} {oc8 kV8 dc8 pm8 cd8 ct8 : Value}
    (a8 : PySem.W.nsIn K mainGlobals "scalar" = some (some (.ref f8)))
    (l8 : K.lookup f8 = some ⟨oc8, od8, .func (PySem.W.fnOf "scalar" "scalar" (defArgs s_scalar) (defBody s_scalar) (defScope s_scalar) .none kV8 dc8 pm8 an8 cd8 ct8), sl8⟩)
    (c8 : PySem.W.codeIn K cd8 "scalar" = true) (k8 : PySem.W.keepIn K (.ref f8) = true)
    {f9 : Addr} {od9 an9 : Option Addr} {sl9 : Array (Option Value)} {oc9 kV9 dc9 pm9 cd9 ct9 : Value}
    (a9 : PySem.W.nsIn K mainGlobals "whole_vector" = some (some (.ref f9)))
    (l9 : K.lookup f9 = some ⟨oc9, od9, .func (PySem.W.fnOf "whole_vector" "whole_vector" (defArgs s_whole_vector) (defBody s_whole_vector) (defScope s_whole_vector) .none kV9 dc9 pm9 an9 cd9 ct9), sl9⟩)
    (c9 : PySem.W.codeIn K cd9 "whole_vector" = true) (k9 : PySem.W.keepIn K (.ref f9) = true)
    {f10 : Addr} {od10 an10 : Option Addr} {sl10 : Array (Option Value)} {oc10 kV10 dc10 pm10 cd10 ct10 : Value}
    (a10 : PySem.W.nsIn K mainGlobals "nearest" = some (some (.ref f10)))
    (l10 : K.lookup f10 = some ⟨oc10, od10, .func (PySem.W.fnOf "nearest" "nearest" (defArgs s_nearest) (defBody s_nearest) (defScope s_nearest) .none kV10 dc10 pm10 an10 cd10 ct10), sl10⟩)
    (c10 : PySem.W.codeIn K cd10 "nearest" = true) (k10 : PySem.W.keepIn K (.ref f10) = true)
    {f11 : Addr} {od11 an11 : Option Addr} {sl11 : Array (Option Value)} {oc11 kV11 dc11 pm11 cd11 ct11 : Value}
    (a11 : PySem.W.nsIn K mainGlobals "reduced_basis" = some (some (.ref f11)))
    (l11 : K.lookup f11 = some ⟨oc11, od11, .func (PySem.W.fnOf "reduced_basis" "reduced_basis" (defArgs s_reduced_basis) (defBody s_reduced_basis) (defScope s_reduced_basis) .none kV11 dc11 pm11 an11 cd11 ct11), sl11⟩)
    (c11 : PySem.W.codeIn K cd11 "reduced_basis" = true) (k11 : PySem.W.keepIn K (.ref f11) = true)
    {f12 : Addr} {od12 an12 : Option Addr} {sl12 : Array (Option Value)} {oc12 kV12 dc12 pm12 cd12 ct12 : Value}
    (a12 : PySem.W.nsIn K mainGlobals "in_cell" = some (some (.ref f12)))
    (l12 : K.lookup f12 = some ⟨oc12, od12, .func (PySem.W.fnOf "in_cell" "in_cell" (defArgs s_in_cell) (defBody s_in_cell) (defScope s_in_cell) .none kV12 dc12 pm12 an12 cd12 ct12), sl12⟩)
    (c12 : PySem.W.codeIn K cd12 "in_cell" = true) (k12 : PySem.W.keepIn K (.ref f12) = true)
    {f13 : Addr} {od13 an13 : Option Addr} {sl13 : Array (Option Value)} {oc13 kV13 dc13 pm13 cd13 ct13 : Value}
    (a13 : PySem.W.nsIn K mainGlobals "same_lengths" = some (some (.ref f13)))
    (l13 : K.lookup f13 = some ⟨oc13, od13, .func (PySem.W.fnOf "same_lengths" "same_lengths" (defArgs s_same_lengths) (defBody s_same_lengths) (defScope s_same_lengths) .none kV13 dc13 pm13 an13 cd13 ct13), sl13⟩)
    (c13 : PySem.W.codeIn K cd13 "same_lengths" = true) (k13 : PySem.W.keepIn K (.ref f13) = true)
    {f14 : Addr} {od14 an14 : Option Addr} {sl14 : Array (Option Value)} {oc14 kV14 dc14 pm14 cd14 ct14 : Value}
    (a14 : PySem.W.nsIn K mainGlobals "keeping" = some (some (.ref f14)))
    (l14 : K.lookup f14 = some ⟨oc14, od14, .func (PySem.W.fnOf "keeping" "keeping" (defArgs s_keeping) (defBody s_keeping) (defScope s_keeping) .none kV14 dc14 pm14 an14 cd14 ct14), sl14⟩)
    (c14 : PySem.W.codeIn K cd14 "keeping" = true) (k14 : PySem.W.keepIn K (.ref f14) = true)
    {f15 : Addr} {od15 an15 : Option Addr} {sl15 : Array (Option Value)} {oc15 kV15 dc15 pm15 cd15 ct15 : Value}
    (a15 : PySem.W.nsIn K mainGlobals "_law_cell" = some (some (.ref f15)))
    (l15 : K.lookup f15 = some ⟨oc15, od15, .func (PySem.W.fnOf "_law_cell" "_law_cell" (defArgs s__law_cell) (defBody s__law_cell) (defScope s__law_cell) .none kV15 dc15 pm15 an15 cd15 ct15), sl15⟩)
    (c15 : PySem.W.codeIn K cd15 "_law_cell" = true) (k15 : PySem.W.keepIn K (.ref f15) = true)
    {f16 : Addr} {od16 an16 : Option Addr} {sl16 : Array (Option Value)} {oc16 kV16 dc16 pm16 cd16 ct16 : Value}
    (a16 : PySem.W.nsIn K mainGlobals "_law_numbers" = some (some (.ref f16)))
    (l16 : K.lookup f16 = some ⟨oc16, od16, .func (PySem.W.fnOf "_law_numbers" "_law_numbers" (defArgs s__law_numbers) (defBody s__law_numbers) (defScope s__law_numbers) .none kV16 dc16 pm16 an16 cd16 ct16), sl16⟩)
    (c16 : PySem.W.codeIn K cd16 "_law_numbers" = true) (k16 : PySem.W.keepIn K (.ref f16) = true)
    {f17 : Addr} {od17 an17 : Option Addr} {sl17 : Array (Option Value)} {oc17 kV17 dc17 pm17 cd17 ct17 : Value}
    (a17 : PySem.W.nsIn K mainGlobals "_law_same" = some (some (.ref f17)))
    (l17 : K.lookup f17 = some ⟨oc17, od17, .func (PySem.W.fnOf "_law_same" "_law_same" (defArgs s__law_same) (defBody s__law_same) (defScope s__law_same) .none kV17 dc17 pm17 an17 cd17 ct17), sl17⟩)
    (c17 : PySem.W.codeIn K cd17 "_law_same" = true) (k17 : PySem.W.keepIn K (.ref f17) = true)
    {f18 : Addr} {od18 an18 : Option Addr} {sl18 : Array (Option Value)} {oc18 kV18 dc18 pm18 cd18 ct18 : Value}
    (a18 : PySem.W.nsIn K mainGlobals "_law_gcd" = some (some (.ref f18)))
    (l18 : K.lookup f18 = some ⟨oc18, od18, .func (PySem.W.fnOf "_law_gcd" "_law_gcd" (defArgs s__law_gcd) (defBody s__law_gcd) (defScope s__law_gcd) .none kV18 dc18 pm18 an18 cd18 ct18), sl18⟩)
    (c18 : PySem.W.codeIn K cd18 "_law_gcd" = true) (k18 : PySem.W.keepIn K (.ref f18) = true)
    {f19 : Addr} {od19 an19 : Option Addr} {sl19 : Array (Option Value)} {oc19 kV19 dc19 pm19 cd19 ct19 : Value}
    (a19 : PySem.W.nsIn K mainGlobals "_law_frac" = some (some (.ref f19)))
    (l19 : K.lookup f19 = some ⟨oc19, od19, .func (PySem.W.fnOf "_law_frac" "_law_frac" (defArgs s__law_frac) (defBody s__law_frac) (defScope s__law_frac) .none kV19 dc19 pm19 an19 cd19 ct19), sl19⟩)
    (c19 : PySem.W.codeIn K cd19 "_law_frac" = true) (k19 : PySem.W.keepIn K (.ref f19) = true)
    {f20 : Addr} {od20 an20 : Option Addr} {sl20 : Array (Option Value)} {oc20 kV20 dc20 pm20 cd20 ct20 : Value}
    (a20 : PySem.W.nsIn K mainGlobals "_law_add" = some (some (.ref f20)))
    (l20 : K.lookup f20 = some ⟨oc20, od20, .func (PySem.W.fnOf "_law_add" "_law_add" (defArgs s__law_add) (defBody s__law_add) (defScope s__law_add) .none kV20 dc20 pm20 an20 cd20 ct20), sl20⟩)
    (c20 : PySem.W.codeIn K cd20 "_law_add" = true) (k20 : PySem.W.keepIn K (.ref f20) = true)
    {f21 : Addr} {od21 an21 : Option Addr} {sl21 : Array (Option Value)} {oc21 kV21 dc21 pm21 cd21 ct21 : Value}
    (a21 : PySem.W.nsIn K mainGlobals "_law_mul" = some (some (.ref f21)))
    (l21 : K.lookup f21 = some ⟨oc21, od21, .func (PySem.W.fnOf "_law_mul" "_law_mul" (defArgs s__law_mul) (defBody s__law_mul) (defScope s__law_mul) .none kV21 dc21 pm21 an21 cd21 ct21), sl21⟩)
    (c21 : PySem.W.codeIn K cd21 "_law_mul" = true) (k21 : PySem.W.keepIn K (.ref f21) = true)
    {f22 : Addr} {od22 an22 : Option Addr} {sl22 : Array (Option Value)} {oc22 kV22 dc22 pm22 cd22 ct22 : Value}
    (a22 : PySem.W.nsIn K mainGlobals "_law_det" = some (some (.ref f22)))
    (l22 : K.lookup f22 = some ⟨oc22, od22, .func (PySem.W.fnOf "_law_det" "_law_det" (defArgs s__law_det) (defBody s__law_det) (defScope s__law_det) .none kV22 dc22 pm22 an22 cd22 ct22), sl22⟩)
    (c22 : PySem.W.codeIn K cd22 "_law_det" = true) (k22 : PySem.W.keepIn K (.ref f22) = true)
    {f23 : Addr} {od23 an23 : Option Addr} {sl23 : Array (Option Value)} {oc23 kV23 dc23 pm23 cd23 ct23 : Value}
    (a23 : PySem.W.nsIn K mainGlobals "_law_product" = some (some (.ref f23)))
    (l23 : K.lookup f23 = some ⟨oc23, od23, .func (PySem.W.fnOf "_law_product" "_law_product" (defArgs s__law_product) (defBody s__law_product) (defScope s__law_product) .none kV23 dc23 pm23 an23 cd23 ct23), sl23⟩)
    (c23 : PySem.W.codeIn K cd23 "_law_product" = true) (k23 : PySem.W.keepIn K (.ref f23) = true)
    {f24 : Addr} {od24 an24 : Option Addr} {sl24 : Array (Option Value)} {oc24 kV24 dc24 pm24 cd24 ct24 : Value}
    (a24 : PySem.W.nsIn K mainGlobals "_law_short_cell" = some (some (.ref f24)))
    (l24 : K.lookup f24 = some ⟨oc24, od24, .func (PySem.W.fnOf "_law_short_cell" "_law_short_cell" (defArgs s__law_short_cell) (defBody s__law_short_cell) (defScope s__law_short_cell) .none kV24 dc24 pm24 an24 cd24 ct24), sl24⟩)
    (c24 : PySem.W.codeIn K cd24 "_law_short_cell" = true) (k24 : PySem.W.keepIn K (.ref f24) = true)
    {f25 : Addr} {od25 an25 : Option Addr} {sl25 : Array (Option Value)} {oc25 kV25 dc25 pm25 cd25 ct25 : Value}
    (a25 : PySem.W.nsIn K mainGlobals "_law_scalar" = some (some (.ref f25)))
    (l25 : K.lookup f25 = some ⟨oc25, od25, .func (PySem.W.fnOf "_law_scalar" "_law_scalar" (defArgs s__law_scalar) (defBody s__law_scalar) (defScope s__law_scalar) .none kV25 dc25 pm25 an25 cd25 ct25), sl25⟩)
    (c25 : PySem.W.codeIn K cd25 "_law_scalar" = true) (k25 : PySem.W.keepIn K (.ref f25) = true)
    {f26 : Addr} {od26 an26 : Option Addr} {sl26 : Array (Option Value)} {oc26 kV26 dc26 pm26 cd26 ct26 : Value}
    (a26 : PySem.W.nsIn K mainGlobals "_law_cell_of" = some (some (.ref f26)))
    (l26 : K.lookup f26 = some ⟨oc26, od26, .func (PySem.W.fnOf "_law_cell_of" "_law_cell_of" (defArgs s__law_cell_of) (defBody s__law_cell_of) (defScope s__law_cell_of) .none kV26 dc26 pm26 an26 cd26 ct26), sl26⟩)
    (c26 : PySem.W.codeIn K cd26 "_law_cell_of" = true) (k26 : PySem.W.keepIn K (.ref f26) = true)
    {f27 : Addr} {od27 an27 : Option Addr} {sl27 : Array (Option Value)} {oc27 kV27 dc27 pm27 cd27 ct27 : Value}
    (a27 : PySem.W.nsIn K mainGlobals "_law_vector" = some (some (.ref f27)))
    (l27 : K.lookup f27 = some ⟨oc27, od27, .func (PySem.W.fnOf "_law_vector" "_law_vector" (defArgs s__law_vector) (defBody s__law_vector) (defScope s__law_vector) .none kV27 dc27 pm27 an27 cd27 ct27), sl27⟩)
    (c27 : PySem.W.codeIn K cd27 "_law_vector" = true) (k27 : PySem.W.keepIn K (.ref f27) = true)
    {f28 : Addr} {od28 an28 : Option Addr} {sl28 : Array (Option Value)} {oc28 kV28 dc28 pm28 cd28 ct28 : Value}
    (a28 : PySem.W.nsIn K mainGlobals "_law_other_cell" = some (some (.ref f28)))
    (l28 : K.lookup f28 = some ⟨oc28, od28, .func (PySem.W.fnOf "_law_other_cell" "_law_other_cell" (defArgs s__law_other_cell) (defBody s__law_other_cell) (defScope s__law_other_cell) .none kV28 dc28 pm28 an28 cd28 ct28), sl28⟩)
    (c28 : PySem.W.codeIn K cd28 "_law_other_cell" = true) (k28 : PySem.W.keepIn K (.ref f28) = true)
    {f29 : Addr} {od29 an29 : Option Addr} {sl29 : Array (Option Value)} {oc29 kV29 dc29 pm29 cd29 ct29 : Value}
    (a29 : PySem.W.nsIn K mainGlobals "_law_small_matrices" = some (some (.ref f29)))
    (l29 : K.lookup f29 = some ⟨oc29, od29, .func (PySem.W.fnOf "_law_small_matrices" "_law_small_matrices" (defArgs s__law_small_matrices) (defBody s__law_small_matrices) (defScope s__law_small_matrices) .none kV29 dc29 pm29 an29 cd29 ct29), sl29⟩)
    (c29 : PySem.W.codeIn K cd29 "_law_small_matrices" = true) (k29 : PySem.W.keepIn K (.ref f29) = true)
    {f30 : Addr} {od30 an30 : Option Addr} {sl30 : Array (Option Value)} {oc30 kV30 dc30 pm30 cd30 ct30 : Value}
    (a30 : PySem.W.nsIn K mainGlobals "_law_keepers" = some (some (.ref f30)))
    (l30 : K.lookup f30 = some ⟨oc30, od30, .func (PySem.W.fnOf "_law_keepers" "_law_keepers" (defArgs s__law_keepers) (defBody s__law_keepers) (defScope s__law_keepers) .none kV30 dc30 pm30 an30 cd30 ct30), sl30⟩)
    (c30 : PySem.W.codeIn K cd30 "_law_keepers" = true) (k30 : PySem.W.keepIn K (.ref f30) = true)
    {f31 : Addr} {od31 an31 : Option Addr} {sl31 : Array (Option Value)} {oc31 kV31 dc31 pm31 cd31 ct31 : Value}
    (a31 : PySem.W.nsIn K mainGlobals "_law_reverse" = some (some (.ref f31)))
    (l31 : K.lookup f31 = some ⟨oc31, od31, .func (PySem.W.fnOf "_law_reverse" "_law_reverse" (defArgs s__law_reverse) (defBody s__law_reverse) (defScope s__law_reverse) .none kV31 dc31 pm31 an31 cd31 ct31), sl31⟩)
    (c31 : PySem.W.codeIn K cd31 "_law_reverse" = true) (k31 : PySem.W.keepIn K (.ref f31) = true)
    {f32 : Addr} {od32 an32 : Option Addr} {sl32 : Array (Option Value)} {oc32 kV32 dc32 pm32 cd32 ct32 : Value}
    (a32 : PySem.W.nsIn K mainGlobals "_law_wide_cell" = some (some (.ref f32)))
    (l32 : K.lookup f32 = some ⟨oc32, od32, .func (PySem.W.fnOf "_law_wide_cell" "_law_wide_cell" (defArgs s__law_wide_cell) (defBody s__law_wide_cell) (defScope s__law_wide_cell) .none kV32 dc32 pm32 an32 cd32 ct32), sl32⟩)
    (c32 : PySem.W.codeIn K cd32 "_law_wide_cell" = true) (k32 : PySem.W.keepIn K (.ref f32) = true)
    {f33 : Addr} {od33 an33 : Option Addr} {sl33 : Array (Option Value)} {oc33 kV33 dc33 pm33 cd33 ct33 : Value}
    (a33 : PySem.W.nsIn K mainGlobals "_law_long_axes" = some (some (.ref f33)))
    (l33 : K.lookup f33 = some ⟨oc33, od33, .func (PySem.W.fnOf "_law_long_axes" "_law_long_axes" (defArgs s__law_long_axes) (defBody s__law_long_axes) (defScope s__law_long_axes) .none kV33 dc33 pm33 an33 cd33 ct33), sl33⟩)
    (c33 : PySem.W.codeIn K cd33 "_law_long_axes" = true) (k33 : PySem.W.keepIn K (.ref f33) = true)
    {f34 : Addr} {od34 an34 : Option Addr} {sl34 : Array (Option Value)} {oc34 kV34 dc34 pm34 cd34 ct34 : Value}
    (a34 : PySem.W.nsIn K mainGlobals "law" = some (some (.ref f34)))
    (l34 : K.lookup f34 = some ⟨oc34, od34, .func (PySem.W.fnOf "law" "law" (defArgs s_law) (defBody s_law) (defScope s_law) .none kV34 dc34 pm34 an34 cd34 ct34), sl34⟩)
    (c34 : PySem.W.codeIn K cd34 "law" = true) (k34 : PySem.W.keepIn K (.ref f34) = true)
    (z0 : PySem.W.nsIn K mainGlobals "abs" = some none)
    (z1 : PySem.W.nsIn K mainGlobals "bool" = some none)
    (z2 : PySem.W.nsIn K mainGlobals "int" = some none)
    (z3 : PySem.W.nsIn K mainGlobals "isinstance" = some none)
    (z4 : PySem.W.nsIn K mainGlobals "len" = some none)
    (z5 : PySem.W.nsIn K mainGlobals "list" = some none)
    (z6 : PySem.W.nsIn K mainGlobals "range" = some none)
    (z7 : PySem.W.nsIn K mainGlobals "sorted" = some none)
    (z8 : PySem.W.nsIn K mainGlobals "str" = some none)
    (z9 : PySem.W.nsIn K mainGlobals "tuple" = some none)
    : ∃ fd : FuncData, (∀ (s : Shared) (v : Value), BindsTo s fd ⟨[v], []⟩ [("script", v)]) ∧ ∀ base : Heap, K.In base → base.Ns mainGlobals mg → FnOk l.prog w K mg base CX0 10 fa fd ["script"] (spOf K lawS) := by
  have T : Txt K mg := {
    d_common_divisor := defT_mk (PySem.W.mg_of X G a0) l0 c0 k0 (fun _ _ _ _ _ _ us hl => match us, hl with | [_, _], _ => rfl)
    d_fraction := defT_mkD (PySem.W.mg_of X G a1) l1 c1 k1 (by simp) ⟨_, _, _, _, rfl, t1, rfl, (.cons ⟨_, rfl⟩ .nil)⟩ (by decide) (fun j hj T kV dc pm an cd ct us its hu hi => by
      match j, us, its, hj, hu, hi with
      | 0, [_], [_], _, _, _ => exact ⟨_, rfl, rfl⟩
      | 1, [_, _], [_], _, _, _ => exact ⟨_, rfl, rfl⟩)
    d_plus := defT_mk (PySem.W.mg_of X G a2) l2 c2 k2 (fun _ _ _ _ _ _ us hl => match us, hl with | [_, _], _ => rfl)
    d_times := defT_mk (PySem.W.mg_of X G a3) l3 c3 k3 (fun _ _ _ _ _ _ us hl => match us, hl with | [_, _], _ => rfl)
    d_divided := defT_mk (PySem.W.mg_of X G a4) l4 c4 k4 (fun _ _ _ _ _ _ us hl => match us, hl with | [_, _], _ => rfl)
    d_less := defT_mk (PySem.W.mg_of X G a5) l5 c5 k5 (fun _ _ _ _ _ _ us hl => match us, hl with | [_, _], _ => rfl)
    d_product := defT_mk (PySem.W.mg_of X G a6) l6 c6 k6 (fun _ _ _ _ _ _ us hl => match us, hl with | [_, _], _ => rfl)
    d_reverse_matrix := defT_mk (PySem.W.mg_of X G a7) l7 c7 k7 (fun _ _ _ _ _ _ us hl => match us, hl with | [_], _ => rfl)
    d_scalar := defT_mk (PySem.W.mg_of X G a8) l8 c8 k8 (fun _ _ _ _ _ _ us hl => match us, hl with | [_, _, _], _ => rfl)
    d_whole_vector := defT_mk (PySem.W.mg_of X G a9) l9 c9 k9 (fun _ _ _ _ _ _ us hl => match us, hl with | [_], _ => rfl)
    d_nearest := defT_mk (PySem.W.mg_of X G a10) l10 c10 k10 (fun _ _ _ _ _ _ us hl => match us, hl with | [_], _ => rfl)
    d_reduced_basis := defT_mk (PySem.W.mg_of X G a11) l11 c11 k11 (fun _ _ _ _ _ _ us hl => match us, hl with | [_], _ => rfl)
    d_in_cell := defT_mk (PySem.W.mg_of X G a12) l12 c12 k12 (fun _ _ _ _ _ _ us hl => match us, hl with | [_, _, _], _ => rfl)
    d_same_lengths := defT_mk (PySem.W.mg_of X G a13) l13 c13 k13 (fun _ _ _ _ _ _ us hl => match us, hl with | [_, _], _ => rfl)
    d_keeping := defT_mk (PySem.W.mg_of X G a14) l14 c14 k14 (fun _ _ _ _ _ _ us hl => match us, hl with | [_], _ => rfl)
    d__law_cell := defT_mk (PySem.W.mg_of X G a15) l15 c15 k15 (fun _ _ _ _ _ _ us hl => match us, hl with | [_, _], _ => rfl)
    d__law_numbers := defT_mk (PySem.W.mg_of X G a16) l16 c16 k16 (fun _ _ _ _ _ _ us hl => match us, hl with | [_, _], _ => rfl)
    d__law_same := defT_mk (PySem.W.mg_of X G a17) l17 c17 k17 (fun _ _ _ _ _ _ us hl => match us, hl with | [_, _], _ => rfl)
    d__law_gcd := defT_mk (PySem.W.mg_of X G a18) l18 c18 k18 (fun _ _ _ _ _ _ us hl => match us, hl with | [_, _], _ => rfl)
    d__law_frac := defT_mk (PySem.W.mg_of X G a19) l19 c19 k19 (fun _ _ _ _ _ _ us hl => match us, hl with | [_, _], _ => rfl)
    d__law_add := defT_mk (PySem.W.mg_of X G a20) l20 c20 k20 (fun _ _ _ _ _ _ us hl => match us, hl with | [_, _], _ => rfl)
    d__law_mul := defT_mk (PySem.W.mg_of X G a21) l21 c21 k21 (fun _ _ _ _ _ _ us hl => match us, hl with | [_, _], _ => rfl)
    d__law_det := defT_mk (PySem.W.mg_of X G a22) l22 c22 k22 (fun _ _ _ _ _ _ us hl => match us, hl with | [_], _ => rfl)
    d__law_product := defT_mk (PySem.W.mg_of X G a23) l23 c23 k23 (fun _ _ _ _ _ _ us hl => match us, hl with | [_, _], _ => rfl)
    d__law_short_cell := defT_mk (PySem.W.mg_of X G a24) l24 c24 k24 (fun _ _ _ _ _ _ us hl => match us, hl with | [_], _ => rfl)
    d__law_scalar := defT_mk (PySem.W.mg_of X G a25) l25 c25 k25 (fun _ _ _ _ _ _ us hl => match us, hl with | [_, _, _], _ => rfl)
    d__law_cell_of := defT_mk (PySem.W.mg_of X G a26) l26 c26 k26 (fun _ _ _ _ _ _ us hl => match us, hl with | [_, _, _], _ => rfl)
    d__law_vector := defT_mk (PySem.W.mg_of X G a27) l27 c27 k27 (fun _ _ _ _ _ _ us hl => match us, hl with | [_, _], _ => rfl)
    d__law_other_cell := defT_mk (PySem.W.mg_of X G a28) l28 c28 k28 (fun _ _ _ _ _ _ us hl => match us, hl with | [_, _], _ => rfl)
    d__law_small_matrices := defT_mk (PySem.W.mg_of X G a29) l29 c29 k29 (fun _ _ _ _ _ _ us hl => match us, hl with | [], _ => rfl)
    d__law_keepers := defT_mk (PySem.W.mg_of X G a30) l30 c30 k30 (fun _ _ _ _ _ _ us hl => match us, hl with | [_], _ => rfl)
    d__law_reverse := defT_mk (PySem.W.mg_of X G a31) l31 c31 k31 (fun _ _ _ _ _ _ us hl => match us, hl with | [_], _ => rfl)
    d__law_wide_cell := defT_mk (PySem.W.mg_of X G a32) l32 c32 k32 (fun _ _ _ _ _ _ us hl => match us, hl with | [_], _ => rfl)
    d__law_long_axes := defT_mk (PySem.W.mg_of X G a33) l33 c33 k33 (fun _ _ _ _ _ _ us hl => match us, hl with | [_, _], _ => rfl)
    d_law := defT_mk (PySem.W.mg_of X G a34) l34 c34 k34 (fun _ _ _ _ _ _ us hl => match us, hl with | [_], _ => rfl)
    m_abs := PySem.W.mg_none_of X G z0
    m_bool := PySem.W.mg_none_of X G z1
    m_int := PySem.W.mg_none_of X G z2
    m_isinstance := PySem.W.mg_none_of X G z3
    m_len := PySem.W.mg_none_of X G z4
    m_list := PySem.W.mg_none_of X G z5
    m_range := PySem.W.mg_none_of X G z6
    m_sorted := PySem.W.mg_none_of X G z7
    m_str := PySem.W.mg_none_of X G z8
    m_tuple := PySem.W.mg_none_of X G z9
    c_ZERO := ⟨(.ref k_ZERO), _, PySem.W.mg_of X G aK_ZERO, rfl, ((rep_ktup (xs := [.int 0, .int 1]) lk_ZERO (small_ok rfl) (.cons ⟨_, rfl⟩ (.cons ⟨_, rfl⟩ .nil)) (fun G => (.cons ((fun _ => Rep.int _) G) (.cons ((fun _ => Rep.int _) G) .nil)))))⟩
    c_STEPS := ⟨(.ref k_STEPS), _, PySem.W.mg_of X G aK_STEPS, rfl, ((rep_ktup (xs := [.ref k_STEPS_0, .ref k_STEPS_1, .ref k_STEPS_2, .ref k_STEPS_3, .ref k_STEPS_4, .ref k_STEPS_5, .ref k_STEPS_6, .ref k_STEPS_7]) lk_STEPS (small_ok rfl) (.cons rfl (.cons rfl (.cons rfl (.cons rfl (.cons rfl (.cons rfl (.cons rfl (.cons rfl .nil)))))))) (fun G => (.cons ((rep_ktup (xs := [.int 1, .int 0]) lk_STEPS_0 (small_ok rfl) (.cons ⟨_, rfl⟩ (.cons ⟨_, rfl⟩ .nil)) (fun G => (.cons ((fun _ => Rep.int _) G) (.cons ((fun _ => Rep.int _) G) .nil)))) G) (.cons ((rep_ktup (xs := [.int 0, .int 1]) lk_STEPS_1 (small_ok rfl) (.cons ⟨_, rfl⟩ (.cons ⟨_, rfl⟩ .nil)) (fun G => (.cons ((fun _ => Rep.int _) G) (.cons ((fun _ => Rep.int _) G) .nil)))) G) (.cons ((rep_ktup (xs := [.int 1, .int 1]) lk_STEPS_2 (small_ok rfl) (.cons ⟨_, rfl⟩ (.cons ⟨_, rfl⟩ .nil)) (fun G => (.cons ((fun _ => Rep.int _) G) (.cons ((fun _ => Rep.int _) G) .nil)))) G) (.cons ((rep_ktup (xs := [.int 1, .int (-1)]) lk_STEPS_3 (small_ok rfl) (.cons ⟨_, rfl⟩ (.cons ⟨_, rfl⟩ .nil)) (fun G => (.cons ((fun _ => Rep.int _) G) (.cons ((fun _ => Rep.int _) G) .nil)))) G) (.cons ((rep_ktup (xs := [.int (-1), .int 1]) lk_STEPS_4 (small_ok rfl) (.cons ⟨_, rfl⟩ (.cons ⟨_, rfl⟩ .nil)) (fun G => (.cons ((fun _ => Rep.int _) G) (.cons ((fun _ => Rep.int _) G) .nil)))) G) (.cons ((rep_ktup (xs := [.int (-1), .int 0]) lk_STEPS_5 (small_ok rfl) (.cons ⟨_, rfl⟩ (.cons ⟨_, rfl⟩ .nil)) (fun G => (.cons ((fun _ => Rep.int _) G) (.cons ((fun _ => Rep.int _) G) .nil)))) G) (.cons ((rep_ktup (xs := [.int 0, .int (-1)]) lk_STEPS_6 (small_ok rfl) (.cons ⟨_, rfl⟩ (.cons ⟨_, rfl⟩ .nil)) (fun G => (.cons ((fun _ => Rep.int _) G) (.cons ((fun _ => Rep.int _) G) .nil)))) G) (.cons ((rep_ktup (xs := [.int (-1), .int (-1)]) lk_STEPS_7 (small_ok rfl) (.cons ⟨_, rfl⟩ (.cons ⟨_, rfl⟩ .nil)) (fun G => (.cons ((fun _ => Rep.int _) G) (.cons ((fun _ => Rep.int _) G) .nil)))) G) .nil)))))))))))⟩
  }
  refine law_fin hfa T.d_law (fun f fd F s u => F.bindsA (ps := ["script"]) (fun _ _ _ _ _ _ us hl => match us, hl with | [_], _ => rfl) s [u] rfl) fun base hK hN f fd F => ?_
  have C__law_cell := cal__law_cell (P := l.prog) (w := w) (base := base) T 
  have C__law_gcd := cal__law_gcd (P := l.prog) (w := w) (base := base) T 
  have C__law_frac := cal__law_frac (P := l.prog) (w := w) (base := base) T C__law_gcd
  have C__law_add := cal__law_add (P := l.prog) (w := w) (base := base) T C__law_frac
  have C__law_mul := cal__law_mul (P := l.prog) (w := w) (base := base) T C__law_frac
  have C__law_scalar := cal__law_scalar (P := l.prog) (w := w) (base := base) T C__law_add C__law_mul
  have C__law_cell_of := cal__law_cell_of (P := l.prog) (w := w) (base := base) T C__law_scalar
  have C__law_vector := cal__law_vector (P := l.prog) (w := w) (base := base) T 
  have C__law_other_cell := cal__law_other_cell (P := l.prog) (w := w) (base := base) T C__law_cell_of C__law_vector
  have C__law_det := cal__law_det (P := l.prog) (w := w) (base := base) T 
  have C__law_small_matrices := cal__law_small_matrices (P := l.prog) (w := w) (base := base) T C__law_det
  have C__law_keepers := cal__law_keepers (P := l.prog) (w := w) (base := base) T C__law_other_cell C__law_small_matrices
  have C__law_product := cal__law_product (P := l.prog) (w := w) (base := base) T 
  have C__law_reverse := cal__law_reverse (P := l.prog) (w := w) (base := base) T C__law_det
  have C__law_long_axes := cal__law_long_axes (P := l.prog) (w := w) (base := base) T C__law_other_cell C__law_product C__law_reverse
  have C__law_numbers := cal__law_numbers (P := l.prog) (w := w) (base := base) T 
  have C__law_same := cal__law_same (P := l.prog) (w := w) (base := base) T 
  have C__law_short_cell := cal__law_short_cell (P := l.prog) (w := w) (base := base) T C__law_add C__law_frac C__law_mul
  have C__law_wide_cell := cal__law_wide_cell (P := l.prog) (w := w) (base := base) T C__law_mul C__law_short_cell
  have C_common_divisor := cal_common_divisor (P := l.prog) (w := w) (base := base) T 
  have C_fraction_1 := cal_fraction_1 (P := l.prog) (w := w) (base := base) T C_common_divisor
  have C_fraction := cal_fraction (P := l.prog) (w := w) (base := base) T C_common_divisor
  have C_plus := cal_plus (P := l.prog) (w := w) (base := base) T C_fraction
  have C_times := cal_times (P := l.prog) (w := w) (base := base) T C_fraction
  have C_scalar := cal_scalar (P := l.prog) (w := w) (base := base) T C_plus C_times
  have C_in_cell := cal_in_cell (P := l.prog) (w := w) (base := base) T C_scalar
  have C_product := cal_product (P := l.prog) (w := w) (base := base) T 
  have C_divided := cal_divided (P := l.prog) (w := w) (base := base) T C_fraction
  have C_less := cal_less (P := l.prog) (w := w) (base := base) T 
  have C_nearest := cal_nearest (P := l.prog) (w := w) (base := base) T 
  have C_whole_vector := cal_whole_vector (P := l.prog) (w := w) (base := base) T C_fraction_1
  have C_reduced_basis := cal_reduced_basis (P := l.prog) (w := w) (base := base) T C_divided C_less C_nearest C_scalar C_whole_vector
  have C_reverse_matrix := cal_reverse_matrix (P := l.prog) (w := w) (base := base) T 
  have C_same_lengths := cal_same_lengths (P := l.prog) (w := w) (base := base) T C_scalar C_whole_vector
  have C_keeping := cal_keeping (P := l.prog) (w := w) (base := base) T C_in_cell C_product C_reduced_basis C_reverse_matrix C_same_lengths C_whole_vector
  exact TG.FunD.okD F (k := 9) sc_law (fun ds Q h => by obtain ⟨x, rfl, _⟩ := h; rfl) fun f cdv A outer s H hr ds Q hS => body_law T C__law_cell C__law_keepers C__law_long_axes C__law_numbers C__law_other_cell C__law_product C__law_reverse C__law_same C__law_wide_cell C_keeping hr ds Q hS
end
end My
open PySem PySem.W PyProof.Rows
set_option maxHeartbeats 0 in
theorem PySem.Challenge.cw_tilesglued_k18_matrices_that_keep_a_cell_holds : PySem.Challenge.rw_tilesglued_k18_matrices_that_keep_a_cell.Holds := by
  w_on; o_law; k_head; (case hw => w_witness2)
  k_fill
  refine L2.walk_ofK (l := PySem.Challenge.rw_tilesglued_k18_matrices_that_keep_a_cell) (n := 63) (k := 10) (x := "script") (CX := L2.CX0) (sp := fun K => TG.spOf K TG.lawS) rfl (by decide) rfl ⟨rfl, by decide, by decide⟩ (fun w h Y => PySem.W.kIn_of Y) ?F (fun K H a ns hl ho hS => TG.law_sp K H a ns hl ho hS) (fun _ _ _ _ h => h)
  case F =>
    intro w mg fa h KX G hmg
    refine' My.all_mk KX G hmg ?lk_ZERO ?aK_ZERO ?lk_STEPS_0 ?lk_STEPS_1 ?lk_STEPS_2 ?lk_STEPS_3 ?lk_STEPS_4 ?lk_STEPS_5 ?lk_STEPS_6 ?lk_STEPS_7 ?lk_STEPS ?aK_STEPS ?a0 ?l0 ?c0 ?k0 ?a1 ?l1 ?t1 ?c1 ?k1 ?a2 ?l2 ?c2 ?k2 ?a3 ?l3 ?c3 ?k3 ?a4 ?l4 ?c4 ?k4 ?a5 ?l5 ?c5 ?k5 ?a6 ?l6 ?c6 ?k6 ?a7 ?l7 ?c7 ?k7 ?a8 ?l8 ?c8 ?k8 ?a9 ?l9 ?c9 ?k9 ?a10 ?l10 ?c10 ?k10 ?a11 ?l11 ?c11 ?k11 ?a12 ?l12 ?c12 ?k12 ?a13 ?l13 ?c13 ?k13 ?a14 ?l14 ?c14 ?k14 ?a15 ?l15 ?c15 ?k15 ?a16 ?l16 ?c16 ?k16 ?a17 ?l17 ?c17 ?k17 ?a18 ?l18 ?c18 ?k18 ?a19 ?l19 ?c19 ?k19 ?a20 ?l20 ?c20 ?k20 ?a21 ?l21 ?c21 ?k21 ?a22 ?l22 ?c22 ?k22 ?a23 ?l23 ?c23 ?k23 ?a24 ?l24 ?c24 ?k24 ?a25 ?l25 ?c25 ?k25 ?a26 ?l26 ?c26 ?k26 ?a27 ?l27 ?c27 ?k27 ?a28 ?l28 ?c28 ?k28 ?a29 ?l29 ?c29 ?k29 ?a30 ?l30 ?c30 ?k30 ?a31 ?l31 ?c31 ?k31 ?a32 ?l32 ?c32 ?k32 ?a33 ?l33 ?c33 ?k33 ?a34 ?l34 ?c34 ?k34 ?z0 ?z1 ?z2 ?z3 ?z4 ?z5 ?z6 ?z7 ?z8 ?z9
    (case aK_ZERO => k_is)
    (case aK_STEPS => k_is)
    (case a0 => k_is)
    (case a1 => k_is)
    (case a2 => k_is)
    (case a3 => k_is)
    (case a4 => k_is)
    (case a5 => k_is)
    (case a6 => k_is)
    (case a7 => k_is)
    (case a8 => k_is)
    (case a9 => k_is)
    (case a10 => k_is)
    (case a11 => k_is)
    (case a12 => k_is)
    (case a13 => k_is)
    (case a14 => k_is)
    (case a15 => k_is)
    (case a16 => k_is)
    (case a17 => k_is)
    (case a18 => k_is)
    (case a19 => k_is)
    (case a20 => k_is)
    (case a21 => k_is)
    (case a22 => k_is)
    (case a23 => k_is)
    (case a24 => k_is)
    (case a25 => k_is)
    (case a26 => k_is)
    (case a27 => k_is)
    (case a28 => k_is)
    (case a29 => k_is)
    (case a30 => k_is)
    (case a31 => k_is)
    (case a32 => k_is)
    (case a33 => k_is)
    (case a34 => k_is)
    (case l0 => k_is)
    (case l1 => k_is)
    (case l2 => k_is)
    (case l3 => k_is)
    (case l4 => k_is)
    (case l5 => k_is)
    (case l6 => k_is)
    (case l7 => k_is)
    (case l8 => k_is)
    (case l9 => k_is)
    (case l10 => k_is)
    (case l11 => k_is)
    (case l12 => k_is)
    (case l13 => k_is)
    (case l14 => k_is)
    (case l15 => k_is)
    (case l16 => k_is)
    (case l17 => k_is)
    (case l18 => k_is)
    (case l19 => k_is)
    (case l20 => k_is)
    (case l21 => k_is)
    (case l22 => k_is)
    (case l23 => k_is)
    (case l24 => k_is)
    (case l25 => k_is)
    (case l26 => k_is)
    (case l27 => k_is)
    (case l28 => k_is)
    (case l29 => k_is)
    (case l30 => k_is)
    (case l31 => k_is)
    (case l32 => k_is)
    (case l33 => k_is)
    (case l34 => k_is)
    (case lk_ZERO => k_is)
    (case lk_STEPS => k_is)
    (case lk_STEPS_0 => k_is)
    (case lk_STEPS_1 => k_is)
    (case lk_STEPS_2 => k_is)
    (case lk_STEPS_3 => k_is)
    (case lk_STEPS_4 => k_is)
    (case lk_STEPS_5 => k_is)
    (case lk_STEPS_6 => k_is)
    (case lk_STEPS_7 => k_is)
    (case t1 => k_is)
    (case c0 => k_is)
    (case k0 => k_is)
    (case c1 => k_is)
    (case k1 => k_is)
    (case c2 => k_is)
    (case k2 => k_is)
    (case c3 => k_is)
    (case k3 => k_is)
    (case c4 => k_is)
    (case k4 => k_is)
    (case c5 => k_is)
    (case k5 => k_is)
    (case c6 => k_is)
    (case k6 => k_is)
    (case c7 => k_is)
    (case k7 => k_is)
    (case c8 => k_is)
    (case k8 => k_is)
    (case c9 => k_is)
    (case k9 => k_is)
    (case c10 => k_is)
    (case k10 => k_is)
    (case c11 => k_is)
    (case k11 => k_is)
    (case c12 => k_is)
    (case k12 => k_is)
    (case c13 => k_is)
    (case k13 => k_is)
    (case c14 => k_is)
    (case k14 => k_is)
    (case c15 => k_is)
    (case k15 => k_is)
    (case c16 => k_is)
    (case k16 => k_is)
    (case c17 => k_is)
    (case k17 => k_is)
    (case c18 => k_is)
    (case k18 => k_is)
    (case c19 => k_is)
    (case k19 => k_is)
    (case c20 => k_is)
    (case k20 => k_is)
    (case c21 => k_is)
    (case k21 => k_is)
    (case c22 => k_is)
    (case k22 => k_is)
    (case c23 => k_is)
    (case k23 => k_is)
    (case c24 => k_is)
    (case k24 => k_is)
    (case c25 => k_is)
    (case k25 => k_is)
    (case c26 => k_is)
    (case k26 => k_is)
    (case c27 => k_is)
    (case k27 => k_is)
    (case c28 => k_is)
    (case k28 => k_is)
    (case c29 => k_is)
    (case k29 => k_is)
    (case c30 => k_is)
    (case k30 => k_is)
    (case c31 => k_is)
    (case k31 => k_is)
    (case c32 => k_is)
    (case k32 => k_is)
    (case c33 => k_is)
    (case k33 => k_is)
    (case c34 => k_is)
    (case k34 => k_is)
    (case z0 => k_is)
    (case z1 => k_is)
    (case z2 => k_is)
    (case z3 => k_is)
    (case z4 => k_is)
    (case z5 => k_is)
    (case z6 => k_is)
    (case z7 => k_is)
    (case z8 => k_is)
    (case z9 => k_is)
