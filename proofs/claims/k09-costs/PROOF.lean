import PyProof.Rows.All
import Wide.All
import OpenK.AllK
import Wide.FinOn
import HandS.ForMost
import HandS.Wide
import HandS.ForExc
import HandS.TryMany
import HandS.TryOnly
import HandS.Lambda
import HandS.Nested
import HandS.IsInst
import HandS.Defaults
import HandS.ExcIs
import HandS.TupAny
import HandS.Comp
import HandS.Deep
import KE.SortData
import HandS.Zip
import HandS.TupMul
import PySem.Challenge.RW_tilesglued_k09_costs_and_signatures
set_option Elab.async false
set_option linter.all false
set_option maxRecDepth 100000
set_option maxHeartbeats 4000000
/-! A layer of plain data over the hand layer: values as data D, slots O (unset, data, an owned list), judgements EE (an expression gives data), EO (.. something owned), ET (a test), WS (a statement). -/
namespace TG
open PySem PySem.Spec PyProof.Rows L2

/-! ### data -/
inductive D where
  | non | bl (b : Bool) | int (i : Int) | str (s : Str) | ty (n : String) | tup (ds : List D) | lst (ds : List D)
  | cst (ds : List D) | dct (ks vs : List D) | dci (ns : List Int) (vs : List D) | obj (c : Str) (ns : List Str) (ds : List D)
/-- what a slot holds: nothing known, data, a list (a dict, an instance) of its own -/
inductive O where
  | un | va (d : D) | ml (ds : List D) | rf (a : Addr) | md (ks vs : List D) | mi (ns : List Int) (vs : List D) | mo (c : Str) (ns : List Str) (ds : List D)
mutual
def D.py : D → PyData
  | .non => .none
  | .bl b => .bool b
  | .int i => .int i
  | .str s => .str s
  | .ty _ => .none
  | .tup ds => .tuple (D.pys ds)
  | .lst ds => .list (D.pys ds)
  | .cst _ => .none
  | .dct _ _ => .none
  | .dci _ _ => .none
  | .obj _ _ _ => .none
def D.pys : List D → List PyData
  | [] => []
  | d :: r => D.py d :: D.pys r
end
mutual
/-- no classes within, the texts small -/
def D.plain : D → Bool
  | .ty _ => false
  | .cst _ => false
  | .dct _ _ => false
  | .dci _ _ => false
  | .obj _ _ _ => false
  | .tup ds => D.plains ds
  | .lst ds => D.plains ds
  | .str s => PyData.strOk s
  | _ => true
def D.plains : List D → Bool
  | [] => true
  | d :: r => D.plain d && D.plains r
end
mutual
def D.depth : D → Nat
  | .tup ds => D.depths ds + 1
  | .lst ds => D.depths ds + 1
  | _ => 0
def D.depths : List D → Nat
  | [] => 0
  | d :: r => max (D.depth d) (D.depths r)
end
mutual
/-- a key: an int, a tuple of such -/
def D.hk : D → Bool
  | .int _ => true
  | .tup ds => D.hks ds
  | _ => false
def D.hks : List D → Bool
  | [] => true
  | d :: r => D.hk d && D.hks r
end
/-- a key that stands in a dict of tuples -/
def D.hkt : D → Bool
  | .tup ds => D.hks ds
  | _ => false
def D.key (d : D) : Bool := d.hkt && decide (d.depth ≤ 8)
/-! ### dicts whose keys are tuples of ints, of tuples, .. -/
mutual
def hashP : PyData → Int
  | .int i => hashInt i
  | .tuple xs => reduceHash (Builtin.Tuple.tupleHashOf (hashPs xs))
  | _ => 0
def hashPs : List PyData → List Int
  | [] => []
  | d :: r => hashP d :: hashPs r
end
abbrev Dx := List (PyData × Addr × Value)
def entP (x : PyData × Addr × Value) : DictEntry := ⟨hashP x.1, .ref x.2.1, x.2.2⟩
def DictX (a : Addr) (xs : Dx) : HO := .ext fun h => (a == sysModules) = false ∧ xs.length ≤ sizeLine ∧ ∃ o es ep, h.get? a = some o ∧ o.ExactDict ∧ o.data = .dict es ep ∧ es.toList = xs.map entP
theorem dictX_ne {a : Addr} {xs : Dx} : (∀ ps, DictX a xs ≠ .tbl ps) ∧ (∀ ys, DictX a xs ≠ .lst ys) ∧ (∀ ys, DictX a xs ≠ .tup ys) ∧ ∀ o u, DictX a xs ≠ .frz o u :=
  ⟨fun ps z => (by unfold DictX at z; cases z), fun ps z => (by unfold DictX at z; cases z), fun ps z => (by unfold DictX at z; cases z), fun o u z => (by unfold DictX at z; cases z)⟩
/-- the keys of an int dict -/
def intKs (ns : List Int) (us : List V) : List (Key × V) := (ns.map Sum.inl).zip us

mutual
inductive Rep (K : PySem.W.Frag) (G : Hp) : V → D → Prop
  | non : Rep K G .non .non
  | bl (b : Bool) : Rep K G (.bl b) (.bl b)
  | int (i : Int) : Rep K G (.int i) (.int i)
  | str (s : Str) : Rep K G (.str s) (.str s)
  | ty (n : String) : Rep K G (.ty n) (.ty n)
  | tup {a : Addr} {xs : List V} {ds : List D} : SqT K G a xs → RepL K G xs ds → Rep K G (.ref a) (.tup ds)
  | lst {a : Addr} {xs : List V} {ds : List D} : G a = some (.lst xs) → RepL K G xs ds → Rep K G (.ref a) (.lst ds)
  | cst {a : Addr} {xs : List V} {ds : List D} : SqL K G a xs → RepL K G xs ds → Rep K G (.ref a) (.cst ds)
  | dct {a : Addr} {o : Obj} {xs : Dx} {us : List V} {ks vs : List D} : G a = some (.frz o (DictX a xs)) → xs.map (·.1) = D.pys ks → (D.pys ks).Nodup → RepL K G (xs.map fun x => V.ref x.2.1) ks → Vals us (xs.map (·.2.2)) → RepL K G us vs → ks.all D.key = true → Rep K G (.ref a) (.dct ks vs)
  | dci {a : Addr} {o : Obj} {ns : List Int} {us : List V} {vs : List D} : G a = some (.frz o (.dK (intKs ns us))) → ns.Nodup → ns.length = us.length → RepL K G us vs → Rep K G (.ref a) (.dci ns vs)
  | obj {a C dx : Addr} {c : Str} {ns : List Str} {us : List V} {ds : List D} : PySem.W.nsIn K mainGlobals c = some (some (.ref C)) → G a = some (.ins C dx (ns.zip us)) → ns.length = us.length → RepL K G us ds → Rep K G (.ref a) (.obj c ns ds)
inductive RepL (K : PySem.W.Frag) (G : Hp) : List V → List D → Prop
  | nil : RepL K G [] []
  | cons {v : V} {vs : List V} {d : D} {ds : List D} : Rep K G v d → RepL K G vs ds → RepL K G (v :: vs) (d :: ds)
end

/-- all that stood stands, the tables of code objects grown -/
structure Ex (H H' : Hp) : Prop where
  keep : ∀ a o, H a = some o → (∀ ps, o ≠ .tbl ps) → H' a = some o
  tb : ∀ a ps, H a = some (.tbl ps) → ∃ ps', H' a = some (.tbl ps')
theorem Ex.app {H H' : Hp} (e : Ex H H') (a : Addr) (o : HO) (h : H a = some o) (n : ∀ ps, o ≠ .tbl ps := by intro ps z; cases z) : H' a = some o := e.keep a o h n
theorem Ex.refl (H : Hp) : Ex H H := ⟨fun _ _ h _ => h, fun _ ps h => ⟨ps, h⟩⟩
theorem Ex.trans {H H1 H2 : Hp} (a : Ex H H1) (b : Ex H1 H2) : Ex H H2 := ⟨fun x o h n => b.keep x o (a.keep x o h n) n, fun x ps h => let ⟨ps', h'⟩ := a.tb x ps h; b.tb x ps' h'⟩
theorem Ex.some_ {H H' : Hp} (e : Ex H H') {a : Addr} {o : HO} (h : H a = some o) : ∃ o', H' a = some o' := by
  by_cases q : ∃ ps, o = .tbl ps
  · obtain ⟨ps, rfl⟩ := q
    obtain ⟨ps', h'⟩ := e.tb a ps h
    exact ⟨_, h'⟩
  · exact ⟨o, e.keep a o h fun ps z => q ⟨ps, z⟩⟩
theorem Ex.back {H H' : Hp} (e : Ex H H') {a : Addr} (h : H' a = none) : H a = none := by
  cases q : H a with
  | none => rfl
  | some o =>
    obtain ⟨o', h'⟩ := e.some_ q
    rw [h'] at h; cases h
theorem Ex.of {H H' : Hp} (h : ∀ a o, H a = some o → H' a = some o) : Ex H H' := ⟨fun a o e _ => h a o e, fun a ps e => ⟨ps, h a _ e⟩⟩
theorem Ex.new {H : Hp} {p : Addr} {o : HO} (h : H p = none) : Ex H (upd H p o) := .of fun a u e => by
  rw [upd_ne (ne_of_none e h)]; exact e
theorem Ex.rd {H H' : Hp} {a : Addr} {u : HO} (e : Ex H H') (h : Rd H a u) (n : ∀ ps, u ≠ .tbl ps := by intro ps z; cases z) : Rd H' a u := by
  rcases h with h | ⟨o, h⟩
  · exact .inl (e.keep a _ h n)
  · exact .inr ⟨o, e.app a _ h⟩
theorem Ex.l {K : PySem.W.Frag} {H H' : Hp} {a : Addr} {xs : List V} (e : Ex H H') (h : H a = some (.lst xs)) : SqL K H' a xs := .inl (.inl (e.app _ _ h))
theorem Ex.lc {K : PySem.W.Frag} {H H' : Hp} {a : Addr} {xs : List V} (e : Ex H H') (h : SqL K H a xs) : SqL K H' a xs := h.elim (fun h => .inl (e.rd h)) .inr
theorem Ex.t {K : PySem.W.Frag} {H H' : Hp} {a : Addr} {xs : List V} (e : Ex H H') (h : SqT K H a xs) : SqT K H' a xs := h.elim (fun h => .inl (e.rd h)) .inr
theorem Ex.upd2 {G H : Hp} (e : Ex G H) {p : Addr} {o : HO} : Ex (upd G p o) (upd H p o) := by
  refine ⟨fun b u h n => ?_, fun b ps h => ?_⟩
  · by_cases hb : b = p
    · subst hb; rw [upd_same] at h ⊢; exact h
    · rw [upd_ne hb] at h ⊢; exact e.keep b u h n
  · by_cases hb : b = p
    · subst hb; rw [upd_same] at h ⊢; exact ⟨ps, h⟩
    · rw [upd_ne hb] at h ⊢; exact e.tb b ps h
theorem Ex.mut {H H' : Hp} {p : Addr} {o : HO} (e : Ex H H') (h : H p = none) : Ex H (upd H' p o) := by
  refine ⟨fun a u ha n => ?_, fun a ps ha => ?_⟩
  · rw [upd_ne (ne_of_none ha h)]; exact e.keep a u ha n
  · rw [upd_ne (ne_of_none ha h)]; exact e.tb a ps ha
/-! ### the tables of code objects that lambdas are made from -/
/-- the tables that may be written: each with the name that its code objects bear -/
class TbT where
  T : List (Addr × Str)
def Tb [TbT] (H : Hp) : Prop := LamX.Tabs TbT.T H
theorem tb_upd [TbT] {H : Hp} {p : Addr} {o : HO} (t : Tb H) (h : ∀ u, H p = some u → (∀ ps, u ≠ .tbl ps) ∧ ∀ c q, u ≠ LamX.CodeO c q) : Tb (upd H p o) := fun x hx => by
  obtain ⟨ps, h1, h2, h3⟩ := t x hx
  have n1 : x.1 ≠ p := fun z => (h _ (z ▸ h1)).1 ps rfl
  refine ⟨ps, by rw [upd_ne n1]; exact h1, h2, fun pos cv hc => ?_⟩
  obtain ⟨c, e1, e2⟩ := h3 pos cv hc
  have n2 : c ≠ p := fun z => (h _ (z ▸ e2)).2 c x.2 rfl
  exact ⟨c, e1, by rw [upd_ne n2]; exact e2⟩
theorem tb_new [TbT] {H : Hp} {p : Addr} {o : HO} (t : Tb H) (h : H p = none) : Tb (upd H p o) := tb_upd t fun u e => by rw [h] at e; cases e
theorem lst_ne {xs : List V} : (∀ ps, HO.lst xs ≠ .tbl ps) ∧ ∀ c q, HO.lst xs ≠ LamX.CodeO c q := ⟨fun ps z => (by cases z), fun c q z => (by unfold LamX.CodeO at z; cases z)⟩
theorem tb_lst [TbT] {H : Hp} {p : Addr} {xs : List V} {o : HO} (t : Tb H) (h : H p = some (.lst xs)) : Tb (upd H p o) := tb_upd t fun u e => by
  rw [h] at e; cases e; exact lst_ne

section
variable {K : PySem.W.Frag} {G G' : Hp}
mutual
theorem Rep.mono (e : Ex G G') : ∀ {d : D} {v : V}, Rep K G v d → Rep K G' v d
  | .non, _, h => by cases h; exact .non
  | .bl _, _, h => by cases h; exact .bl _
  | .int _, _, h => by cases h; exact .int _
  | .str _, _, h => by cases h; exact .str _
  | .ty _, _, h => by cases h; exact .ty _
  | .tup _, _, h => by
    cases h with
    | tup h r => exact .tup (e.t h) (RepL.mono e r)
  | .lst _, _, h => by
    cases h with
    | lst h r => exact .lst (e.app _ _ h) (RepL.mono e r)
  | .cst _, _, h => by
    cases h with
    | cst h r => exact .cst (e.lc h) (RepL.mono e r)
  | .dct _ _, _, h => by
    cases h with
    | dct h k n r w t q => exact .dct (e.app _ _ h) k n (RepL.mono e r) w (RepL.mono e t) q
  | .dci _ _, _, h => by
    cases h with
    | dci h n l r => exact .dci (e.app _ _ h) n l (RepL.mono e r)
  | .obj _ _ _, _, h => by
    cases h with
    | obj c h l r => exact .obj c (e.app _ _ h) l (RepL.mono e r)
theorem RepL.mono (e : Ex G G') : ∀ {ds : List D} {vs : List V}, RepL K G vs ds → RepL K G' vs ds
  | [], _, .nil => .nil
  | _ :: _, _, .cons h r => .cons (Rep.mono e h) (RepL.mono e r)
end
theorem RepL.length : ∀ {ds : List D} {vs : List V}, RepL K G vs ds → vs.length = ds.length
  | [], _, .nil => rfl
  | _ :: _, _, .cons _ r => congrArg (· + 1) (RepL.length r)
theorem RepL.get : ∀ {ds : List D} {vs : List V} {i : Nat} {d : D}, RepL K G vs ds → ds[i]? = some d → ∃ v, vs[i]? = some v ∧ Rep K G v d
  | [], _, _, _, .nil, e => by simp at e
  | _ :: _, _, 0, _, .cons h _, e => by simp at e; subst e; exact ⟨_, rfl, h⟩
  | _ :: _, _, i + 1, _, .cons _ r, e => by
    obtain ⟨v, h1, h2⟩ := RepL.get (i := i) r (by simpa using e)
    exact ⟨v, by simpa using h1, h2⟩
theorem RepL.getV : ∀ {ds : List D} {vs : List V} {i : Nat} {v : V}, RepL K G vs ds → vs[i]? = some v → ∃ d, ds[i]? = some d ∧ Rep K G v d
  | [], _, _, _, .nil, e => by simp at e
  | _ :: _, _, 0, _, .cons h _, e => by simp at e; subst e; exact ⟨_, rfl, h⟩
  | _ :: _, _, i + 1, _, .cons _ r, e => by
    obtain ⟨v, h1, h2⟩ := RepL.getV (i := i) r (by simpa using e)
    exact ⟨v, by simpa using h1, h2⟩
theorem RepL.append : ∀ {ds es : List D} {vs ws : List V}, RepL K G vs ds → RepL K G ws es → RepL K G (vs ++ ws) (ds ++ es)
  | [], _, _, _, .nil, s => s
  | _ :: _, _, _, _, .cons h r, s => .cons h (RepL.append r s)
theorem RepL.one {v : V} {d : D} (h : Rep K G v d) : RepL K G [v] [d] := .cons h .nil
theorem RepL.take : ∀ {ds : List D} {vs : List V} (n : Nat), RepL K G vs ds → RepL K G (vs.take n) (ds.take n)
  | _, _, 0, _ => .nil
  | [], _, _ + 1, .nil => .nil
  | _ :: _, _, n + 1, .cons h r => .cons h (RepL.take n r)
theorem RepL.drop : ∀ {ds : List D} {vs : List V} (n : Nat), RepL K G vs ds → RepL K G (vs.drop n) (ds.drop n)
  | _, _, 0, r => r
  | [], _, _ + 1, .nil => .nil
  | _ :: _, _, n + 1, .cons _ r => RepL.drop n r
theorem RepL.dropLast {ds : List D} {vs : List V} (r : RepL K G vs ds) : RepL K G vs.dropLast ds.dropLast := by
  rw [List.dropLast_eq_take, List.dropLast_eq_take, r.length]; exact r.take _
theorem RepL.set : ∀ {ds : List D} {vs : List V} {d : D} {v : V} (i : Nat), RepL K G vs ds → Rep K G v d → RepL K G (vs.set i v) (ds.set i d)
  | [], _, _, _, _, .nil, _ => .nil
  | _ :: _, _, _, _, 0, .cons _ r, h => .cons h r
  | _ :: _, _, _, _, i + 1, .cons q r, h => .cons q (RepL.set i r h)
end

/-! ### no lists within: nothing of it can be a list that is changed later -/
mutual
def D.noL : D → Bool
  | .lst _ => false
  | .cst _ => false
  | .tup ds => D.noLs ds
  | .dct ks vs => D.noLs ks && D.noLs vs
  | .dci _ vs => D.noLs vs
  | .obj _ _ ds => D.noLs ds
  | _ => true
def D.noLs : List D → Bool
  | [] => true
  | d :: r => D.noL d && D.noLs r
end
section
variable {K : PySem.W.Frag} {G : Hp} {a : Addr} {xs : List V}
def del (G : Hp) (a : Addr) : Hp := fun b => if b = a then none else G b
theorem del_same : del G a a = none := if_pos rfl
theorem del_ne {b : Addr} (h : b ≠ a) : del G a b = G b := if_neg h
theorem del_ex : Ex (del G a) G := .of fun b o e => by
  by_cases h : b = a
  · subst h; rw [del_same] at e; cases e
  · rw [del_ne h] at e; exact e
theorem ex_del {F : Hp} (e : Ex F G) (h : F a = none) : Ex F (del G a) := by
  refine ⟨fun b o q n => ?_, fun b ps q => ?_⟩
  · rw [del_ne (ne_of_none q h)]; exact e.keep b o q n
  · rw [del_ne (ne_of_none q h)]; exact e.tb b ps q
theorem SqT.del {b : Addr} {ys : List V} (ha : G a = some (.lst xs)) (h : SqT K G b ys) : SqT K (del G a) b ys := by
  rcases h with (h | ⟨o, h⟩) | h
  · exact .inl (.inl (by rw [del_ne (ne_of h ha (by intro z; cases z))]; exact h))
  · exact .inl (.inr ⟨o, by rw [del_ne (ne_of h ha (by intro z; cases z))]; exact h⟩)
  · exact .inr h
mutual
theorem Rep.del (ha : G a = some (.lst xs)) : ∀ {d : D} {v : V}, Rep K G v d → d.noL = true → Rep K (del G a) v d
  | .non, _, h, _ => by cases h; exact .non
  | .bl _, _, h, _ => by cases h; exact .bl _
  | .int _, _, h, _ => by cases h; exact .int _
  | .str _, _, h, _ => by cases h; exact .str _
  | .ty _, _, h, _ => by cases h; exact .ty _
  | .tup _, _, h, n => by
    cases h with
    | tup h r => exact .tup (SqT.del ha h) (RepL.del ha r n)
  | .lst _, _, _, n => by exact absurd n (by simp [D.noL])
  | .cst _, _, _, n => by exact absurd n (by simp [D.noL])
  | .dct ks vs, _, h, n => by
    have n' : (D.noLs ks && D.noLs vs) = true := n
    rw [Bool.and_eq_true] at n'
    cases h with
    | dct h k nd r w t q => exact .dct (by rw [del_ne (ne_of h ha (by intro z; cases z))]; exact h) k nd (RepL.del ha r n'.1) w (RepL.del ha t n'.2) q
  | .dci ns vs, _, h, n => by
    cases h with
    | dci h nd l r => exact .dci (by rw [del_ne (ne_of h ha (by intro z; cases z))]; exact h) nd l (RepL.del ha r n)
  | .obj _ _ ds, _, h, n => by
    cases h with
    | obj c h l r => exact .obj c (by rw [del_ne (ne_of h ha (by intro z; cases z))]; exact h) l (RepL.del ha r n)
theorem RepL.del (ha : G a = some (.lst xs)) : ∀ {ds : List D} {vs : List V}, RepL K G vs ds → D.noLs ds = true → RepL K (del G a) vs ds
  | [], _, .nil, _ => .nil
  | d :: r, _, .cons h t, n => by
    have n' : (D.noL d && D.noLs r) = true := n
    rw [Bool.and_eq_true] at n'
    exact .cons (Rep.del ha h n'.1) (RepL.del ha t n'.2)
end
end

/-! ### the slots -/
/-- what stands for v: H0 the heap at the def's entry, G what never changes, H all -/
def OOk (K : PySem.W.Frag) (H0 G H : Hp) : O → V → Prop
  | .un, _ => True
  | .va d, v => Rep K G v d
  | .ml ds, v => ∃ a xs, v = .ref a ∧ H a = some (.lst xs) ∧ G a = none ∧ H0 a = none ∧ RepL K G xs ds
  | .rf a, v => v = .ref a
  | .md ks vs, v => ∃ (a : Addr) (xs : Dx) (us : List V), v = .ref a ∧ H a = some (DictX a xs) ∧ G a = none ∧ H0 a = none ∧ xs.map (·.1) = D.pys ks ∧ (D.pys ks).Nodup ∧ RepL K G (xs.map fun x => V.ref x.2.1) ks ∧ Vals us (xs.map (·.2.2)) ∧ RepL K G us vs ∧ ks.all D.key = true
  | .mi ns vs, v => ∃ (a : Addr) (us : List V), v = .ref a ∧ H a = some (.dK (intKs ns us)) ∧ G a = none ∧ H0 a = none ∧ ns.Nodup ∧ ns.length = us.length ∧ RepL K G us vs
  | .mo c ns ds, v => ∃ (a C dx : Addr) (us : List V), v = .ref a ∧ PySem.W.nsIn K mainGlobals c = some (some (.ref C)) ∧ H a = some (.ins C dx (ns.zip us)) ∧ G a = none ∧ H0 a = none ∧ ns.length = us.length ∧ RepL K G us ds
def O.own : O → Bool
  | .ml _ => true
  | .md _ _ => true
  | .mi _ _ => true
  | .mo _ _ _ => true
  | _ => false
def Own (ρ : List O) (σ : L2.St) (i : Nat) (a : Addr) : Prop := (∃ o, ρ[i]? = some o ∧ o.own = true) ∧ σ[i]? = some (some (.ref a))
structure SOk [TbT] (K : PySem.W.Frag) (E : Hp × Hp) (ρ : List O) (σ : L2.St) (G H : Hp) : Prop where
  g0 : Ex E.1 G
  gh : Ex G H
  h0 : Ex E.2 H
  fr : ∀ b, E.1 b = none → G b ≠ none → E.2 b = none
  len : ρ.length = σ.length
  at' : ∀ (i : Nat) (o : O), ρ[i]? = some o → o = .un ∨ ∃ v, σ[i]? = some (some v) ∧ OOk K E.2 G H o v
  apart : ∀ (i j : Nat) (a : Addr), Own ρ σ i a → Own ρ σ j a → i = j
  tb : Tb H
/-- G, H grow -/
structure Grow [TbT] (G H G' H' : Hp) : Prop where
  g : Ex G G'
  h : Ex H H'
  gh : Ex G' H'
  fr : ∀ b, G b = none → G' b ≠ none → H b = none
  tb : Tb H → Tb H'

section
variable [TbT]
variable {K : PySem.W.Frag} {E : Hp × Hp} {ρ : List O} {σ : L2.St} {G H G' H' : Hp} {i : Nat} {a : Addr} {xs : List V} {ds : List D} {d : D} {v : V} {o : O}
theorem Grow.refl (e : Ex G H) : Grow G H G H := ⟨Ex.refl _, Ex.refl _, e, fun _ h q => absurd h q, id⟩
theorem Grow.trans {G2 H2 : Hp} (x : Grow G H G' H') (y : Grow G' H' G2 H2) : Grow G H G2 H2 := ⟨x.g.trans y.g, x.h.trans y.h, y.gh, fun b h q => by
  cases e : G' b with
  | none => exact x.h.back (y.fr b e q)
  | some o => exact x.fr b h (by rw [e]; simp), fun t => y.tb (x.tb t)⟩
/-- a new object of the part that never changes -/
theorem Grow.new {p : Addr} {u : HO} (e : Ex G H) (hp : H p = none) : Grow G H (upd G p u) (upd H p u) :=
  ⟨Ex.new (e.back hp), Ex.new hp, e.upd2, fun b h q => by
    by_cases z : b = p
    · rw [z]; exact hp
    · rw [upd_ne z] at q; exact absurd h q, fun t => tb_new t hp⟩
/-- a new object that may change -/
theorem Grow.newH {p : Addr} {u : HO} (e : Ex G H) (hp : H p = none) : Grow G H G (upd H p u) :=
  ⟨Ex.refl _, Ex.new hp, e.mut (e.back hp), fun b h q => absurd h q, fun t => tb_new t hp⟩
theorem Grow.none (x : Grow G H G' H') {u : HO} (h1 : H a = some u) (h2 : G a = none) : G' a = none := by
  cases z : G' a with
  | none => rfl
  | some w =>
    have := x.fr a h2 (by rw [z]; simp)
    rw [h1] at this; cases this
theorem OOk.grow (x : Grow G H G' H') (q : OOk K E.2 G H o v) : OOk K E.2 G' H' o v := by
  cases o with
  | un => trivial
  | va d => exact Rep.mono x.g q
  | rf a => exact q
  | ml ds =>
    obtain ⟨a, xs, e, h1, h2, h3, r⟩ := q
    exact ⟨a, xs, e, x.h.app a _ h1, x.none h1 h2, h3, r.mono x.g⟩
  | md ks vs =>
    obtain ⟨a, xs, us, e, h1, h2, h3, k, n, r, w, t, q⟩ := q
    exact ⟨a, xs, us, e, x.h.app a _ h1 dictX_ne.1, x.none h1 h2, h3, k, n, r.mono x.g, w, t.mono x.g, q⟩
  | mi ns vs =>
    obtain ⟨a, us, e, h1, h2, h3, n, l, r⟩ := q
    exact ⟨a, us, e, x.h.app a _ h1, x.none h1 h2, h3, n, l, r.mono x.g⟩
  | mo c ns ds =>
    obtain ⟨a, C, dx, us, e, hc, h1, h2, h3, l, r⟩ := q
    exact ⟨a, C, dx, us, e, hc, x.h.app a _ h1, x.none h1 h2, h3, l, r.mono x.g⟩
omit [TbT] in
theorem OOk.h0 {K : PySem.W.Frag} {H0 H1 G H : Hp} {o : O} {v : V} (q : OOk K H1 G H o v) (e : Ex H0 H1) : OOk K H0 G H o v := by
  cases o with
  | un => trivial
  | va d => exact q
  | rf a => exact q
  | ml ds => obtain ⟨a, xs, e1, h1, h2, h3, r⟩ := q; exact ⟨a, xs, e1, h1, h2, e.back h3, r⟩
  | md ks vs => obtain ⟨a, xs, us, e1, h1, h2, h3, r⟩ := q; exact ⟨a, xs, us, e1, h1, h2, e.back h3, r⟩
  | mi ns vs => obtain ⟨a, us, e1, h1, h2, h3, r⟩ := q; exact ⟨a, us, e1, h1, h2, e.back h3, r⟩
  | mo c ns ds => obtain ⟨a, C, dx, us, e1, c, h1, h2, h3, r⟩ := q; exact ⟨a, C, dx, us, e1, c, h1, h2, e.back h3, r⟩
theorem SOk.grow (S : SOk K E ρ σ G H) (x : Grow G H G' H') : SOk K E ρ σ G' H' := by
  refine ⟨S.g0.trans x.g, x.gh, S.h0.trans x.h, fun b h q => ?_, S.len, fun i o e => ?_, S.apart, x.tb S.tb⟩
  · cases e : G b with
    | none => exact S.h0.back (x.fr b e q)
    | some u => exact S.fr b h (by rw [e]; simp)
  · rcases S.at' i o e with h | ⟨v, h1, h2⟩
    · exact .inl h
    · exact .inr ⟨v, h1, h2.grow x⟩
theorem SOk.get (S : SOk K E ρ σ G H) (h : ρ[i]? = some (.va d)) : ∃ v, σ[i]? = some (some v) ∧ Rep K G v d := by
  rcases S.at' i _ h with h | h
  · cases h
  · exact h
theorem SOk.getL (S : SOk K E ρ σ G H) (h : ρ[i]? = some (.ml ds)) : ∃ a xs, σ[i]? = some (some (.ref a)) ∧ H a = some (.lst xs) ∧ G a = none ∧ E.2 a = none ∧ RepL K G xs ds := by
  rcases S.at' i _ h with h | ⟨v, h1, a, xs, e, h2, h3, h4, r⟩
  · cases h
  · subst e; exact ⟨a, xs, h1, h2, h3, h4, r⟩
omit [TbT] in
theorem set_at {α : Type} {l : List α} {i j : Nat} {x y : α} (h : (l.set i x)[j]? = some y) : (i = j ∧ y = x ∧ i < l.length) ∨ (i ≠ j ∧ l[j]? = some y) := by
  rw [List.getElem?_set] at h
  by_cases e : i = j
  · rw [if_pos e] at h
    by_cases l' : i < l.length
    · rw [if_pos l'] at h; exact .inl ⟨e, (Option.some.inj h).symm, l'⟩
    · rw [if_neg l'] at h; cases h
  · rw [if_neg e] at h; exact .inr ⟨e, h⟩
/-- a slot is stored -/
theorem SOk.set (S : SOk K E ρ σ G H) (i : Nat) (q : OOk K E.2 G H o v) (n : o.own = true → ∀ (j : Nat) b, Own ρ σ j b → v ≠ .ref b) : SOk K E (ρ.set i o) (σ.set i (some v)) G H := by
  refine ⟨S.g0, S.gh, S.h0, S.fr, by rw [List.length_set, List.length_set]; exact S.len, fun j u e => ?_, fun j k b hj hk => ?_, S.tb⟩
  · rcases set_at e with ⟨rfl, rfl, l⟩ | ⟨ne, e⟩
    · refine .inr ⟨v, ?_, q⟩
      rw [List.getElem?_set_self (by rw [← S.len]; exact l)]
    · rcases S.at' j u e with h | ⟨v', h1, h2⟩
      · exact .inl h
      · exact .inr ⟨v', by rw [List.getElem?_set_ne ne]; exact h1, h2⟩
  · obtain ⟨⟨oj, ej, pj⟩, sj⟩ := hj
    obtain ⟨⟨ok, ek, pk⟩, sk⟩ := hk
    rcases set_at ej with ⟨hj, hoj, lj⟩ | ⟨nj, ej'⟩ <;> rcases set_at ek with ⟨hk, hok, lk⟩ | ⟨nk, ek'⟩
    · exact hj.symm.trans hk
    · subst hj; subst hoj
      rw [List.getElem?_set_self (by rw [← S.len]; exact lj)] at sj
      rw [List.getElem?_set_ne nk] at sk
      exact absurd (Option.some.inj (Option.some.inj sj)) (n pj k b ⟨⟨ok, ek', pk⟩, sk⟩)
    · subst hk; subst hok
      rw [List.getElem?_set_self (by rw [← S.len]; exact lk)] at sk
      rw [List.getElem?_set_ne nj] at sj
      exact absurd (Option.some.inj (Option.some.inj sk)) (n pk j b ⟨⟨oj, ej', pj⟩, sj⟩)
    · rw [List.getElem?_set_ne nj] at sj
      rw [List.getElem?_set_ne nk] at sk
      exact S.apart j k b ⟨⟨oj, ej', pj⟩, sj⟩ ⟨⟨ok, ek', pk⟩, sk⟩
theorem SOk.own_at (S : SOk K E ρ σ G H) (h : Own ρ σ i a) : (∃ u, H a = some u) ∧ G a = none ∧ E.2 a = none := by
  obtain ⟨⟨o, e, p⟩, s⟩ := h
  rcases S.at' i o e with z | ⟨v, h1, h2⟩
  · subst z; exact absurd p Bool.false_ne_true
  rw [s] at h1; cases h1
  cases o with
  | un => exact absurd p Bool.false_ne_true
  | va d => exact absurd p Bool.false_ne_true
  | rf a => exact absurd p Bool.false_ne_true
  | ml ds => obtain ⟨b, xs, e1, k1, k2, k3, _⟩ := h2; cases e1; exact ⟨⟨_, k1⟩, k2, k3⟩
  | md ks vs => obtain ⟨b, xs, us, e1, k1, k2, k3, _⟩ := h2; cases e1; exact ⟨⟨_, k1⟩, k2, k3⟩
  | mi ns vs => obtain ⟨b, us, e1, k1, k2, k3, _⟩ := h2; cases e1; exact ⟨⟨_, k1⟩, k2, k3⟩
  | mo c ns ds => obtain ⟨b, C, dx, us, e1, _, k1, k2, k3, _⟩ := h2; cases e1; exact ⟨⟨_, k1⟩, k2, k3⟩
omit [TbT] in
/-- slots are forgotten -/
inductive Le : List O → List O → Prop
  | nil : Le [] []
  | un {o : O} {ρ ρ' : List O} : Le ρ ρ' → Le (o :: ρ) (.un :: ρ')
  | eq {o : O} {ρ ρ' : List O} : Le ρ ρ' → Le (o :: ρ) (o :: ρ')
omit [TbT] in
theorem Le.at {ρ ρ' : List O} (l : Le ρ ρ') : ∀ {i : Nat} {o : O}, ρ'[i]? = some o → o = .un ∨ ρ[i]? = some o := by
  induction l with
  | nil => intro i o h; simp at h
  | un _ ih =>
    intro i o h
    cases i with
    | zero => simp at h; exact .inl h.symm
    | succ i => simpa using ih (by simpa using h)
  | eq _ ih =>
    intro i o h
    cases i with
    | zero => exact .inr h
    | succ i => simpa using ih (by simpa using h)
omit [TbT] in
theorem Le.len {ρ ρ' : List O} (l : Le ρ ρ') : ρ.length = ρ'.length := by
  induction l with
  | nil => rfl
  | un _ ih => simp [ih]
  | eq _ ih => simp [ih]
omit [TbT] in
theorem Le.refl : ∀ ρ : List O, Le ρ ρ
  | [] => .nil
  | _ :: r => .eq (Le.refl r)
theorem SOk.le {ρ' : List O} (S : SOk K E ρ σ G H) (l : Le ρ ρ') : SOk K E ρ' σ G H := by
  refine ⟨S.g0, S.gh, S.h0, S.fr, by rw [← l.len]; exact S.len, fun i o e => ?_, fun i j a hi hj => ?_, S.tb⟩
  · rcases l.at e with h | h
    · exact .inl h
    · exact S.at' i o h
  · obtain ⟨⟨oi, ei, pi⟩, si⟩ := hi
    obtain ⟨⟨oj, ej, pj⟩, sj⟩ := hj
    rcases l.at ei with h | h
    · subst h; exact absurd pi Bool.false_ne_true
    rcases l.at ej with h' | h'
    · subst h'; exact absurd pj Bool.false_ne_true
    exact S.apart i j a ⟨⟨oi, h, pi⟩, si⟩ ⟨⟨oj, h', pj⟩, sj⟩
end

/-! ### exceptions: what the context takes -/
/-- whatever X takes -/
def WA (X : Cx) : WX := fun cls d σ H => ∃ W : WX, Takes X W ∧ W cls d σ H
theorem takes_acc {X : Cx} : Takes X (WA X) := fun u s' ⟨a, B, sI, pins, σ, H, cls, d, e, I, nb, up, sky, na, os, ag, W, t, w⟩ => t u s' ⟨a, B, sI, pins, σ, H, cls, d, e, I, nb, up, sky, na, os, ag, w⟩
/-- exceptions wished: by the class's name, the slots -/
abbrev Exs := Str → List O → Prop
/-- no exception leaves -/
abbrev noX : Exs := fun _ _ => False
/-- the slots and the heaps, and that the wished exceptions are taken -/
structure SOx [TbT] (X : Cx) (ex : Exs) (E : Hp × Hp) (ρ : List O) (σ : L2.St) (G H : Hp) : Prop extends SOk X.K E ρ σ G H where
  xo : ∀ n ρ', ex n ρ' → ∀ C, X.mg n = some (.ref C) → ∀ σ' G' H', SOk X.K E ρ' σ' G' H' → Ex G G' → WA X (.ref C) none σ' H'
section
variable [TbT] {X : Cx} {ex : Exs} {E : Hp × Hp} {ρ ρ' : List O} {σ σ' : L2.St} {G H G' H' : Hp}
theorem SOx.at (S : SOx X ex E ρ σ G H) (S' : SOk X.K E ρ' σ' G' H') (e : Ex G G') : SOx X ex E ρ' σ' G' H' := ⟨S', fun n ρ1 h C hm σ1 G1 H1 S1 e1 => S.xo n ρ1 h C hm σ1 G1 H1 S1 (e.trans e1)⟩
theorem SOx.grow (S : SOx X ex E ρ σ G H) (x : Grow G H G' H') : SOx X ex E ρ σ G' H' := S.at (S.toSOk.grow x) x.g
theorem SOx.le (S : SOx X ex E ρ σ G H) (l : Le ρ ρ') : SOx X ex E ρ' σ G H := S.at (S.toSOk.le l) (Ex.refl _)
instance : CoeOut (SOx X ex E ρ σ G H) (SOk X.K E ρ σ G H) := ⟨SOx.toSOk⟩
/-- no exception -/
theorem SOk.nox (S : SOk X.K E ρ σ G H) : SOx X noX E ρ σ G H := ⟨S, fun _ _ h => h.elim⟩
end
end TG
/-! Judgements over plain data and their rules: expressions. -/
namespace TG
open PySem PySem.Spec PyProof.Rows L2
variable [TbT]

/-! ### a piece of syntax's own meaning as a reading -/
section
variable {X : Cx}
def tSem (X : Cx) (e : Expr) : TE := fun σ H Q => ∀ (pins : List (Addr × Obj)) (s : Shared), Inv X pins σ H s → wpAny (model X.prog X.w) X.A (eval e X.env) (EP X pins σ Q) X.xe s
def tSemT (X : Cx) (e : Expr) : TT := fun σ H Q => ∀ (pins : List (Addr × Obj)) (s : Shared), Inv X pins σ H s → wpAny (model X.prog X.w) X.A (isTrue e X.env (eval e X.env)) (TP X pins σ Q) X.xe s
def tSemW (X : Cx) (e : Expr) : TT := fun σ H Q => ∀ (whole : Sem Value) (pins : List (Addr × Obj)) (s : Shared), Inv X pins σ H s → wpAny (model X.prog X.w) X.A (isTrue e X.env whole) (TP X pins σ Q) X.xe s
def tSemA (X : Cx) (es : List Expr) : TA := fun σ H Q => ∀ (pos : Pos) (pins : List (Addr × Obj)) (s : Shared), Inv X pins σ H s → wpAny (model X.prog X.w) X.A (spliced (backTo pos (starEach es X.env))) (AP X pins σ Q) X.xe s
def tSemS (X : Cx) (st : Stmt) : TS := fun D σ H => ∀ (pins : List (Addr × Obj)) (s : Shared), Inv X pins σ H s → wpAny (model X.prog X.w) X.A (exec st X.env) (SP X pins D) X.xe s
def tSemSs (X : Cx) (st : List Stmt) : TS := fun D σ H => ∀ (pins : List (Addr × Obj)) (s : Shared), Inv X pins σ H s → wpAny (model X.prog X.w) X.A (execs st X.env) (SP X pins D) X.xe s
omit [TbT] in
theorem sem_pe {e : Expr} : PE X e (tSem X e) := ⟨fun pins s _ _ _ I h => h pins s I⟩
omit [TbT] in
theorem sem_pt {e : Expr} : PT X e (tSemT X e) := ⟨fun pins s _ _ _ I h => h pins s I⟩
omit [TbT] in
theorem sem_pw {e : Expr} : PW X e (tSemW X e) := ⟨fun wh pins s _ _ _ I h => h wh pins s I⟩
omit [TbT] in
theorem sem_pa {es : List Expr} : PA X es (tSemA X es) := ⟨fun pos pins s _ _ _ I h => h pos pins s I⟩
omit [TbT] in
theorem sem_ps {st : Stmt} : PS X st (tSemS X st) := ⟨fun pins s _ _ _ I h => h pins s I⟩
omit [TbT] in
theorem sem_pss {st : List Stmt} : PSs X st (tSemSs X st) := ⟨fun pins s _ _ _ I h => h pins s I⟩
omit [TbT] in
theorem of_pe {e : Expr} {t : TE} (h : PE X e t) {σ : L2.St} {H : Hp} {Q : VK} (q : t σ H Q) : tSem X e σ H Q := fun pins s I => h.run pins s σ H Q I q
omit [TbT] in
theorem of_pt {e : Expr} {t : TT} (h : PT X e t) {σ : L2.St} {H : Hp} {Q : Bool → Hp → Prop} (q : t σ H Q) : tSemT X e σ H Q := fun pins s I => h.run pins s σ H Q I q
omit [TbT] in
theorem of_pw {e : Expr} {t : TT} (h : PW X e t) {σ : L2.St} {H : Hp} {Q : Bool → Hp → Prop} (q : t σ H Q) : tSemW X e σ H Q := fun wh pins s I => h.run wh pins s σ H Q I q
omit [TbT] in
theorem of_pa {es : List Expr} {t : TA} (h : PA X es t) {σ : L2.St} {H : Hp} {Q : List V → Hp → Prop} (q : t σ H Q) : tSemA X es σ H Q := fun pos pins s I => h.run pos pins s σ H Q I q
omit [TbT] in
theorem of_ps {st : Stmt} {t : TS} (h : PS X st t) {σ : L2.St} {H : Hp} {D : Ends} (q : t D σ H) : tSemS X st D σ H := fun pins s I => h.run pins s σ H D I q
omit [TbT] in
theorem of_pss {st : List Stmt} {t : TS} (h : PSs X st t) {σ : L2.St} {H : Hp} {D : Ends} (q : t D σ H) : tSemSs X st D σ H := fun pins s I => h.run pins s σ H D I q
omit [TbT] in
theorem tSem_mono {e : Expr} {σ : L2.St} {H : Hp} {Q Q' : VK} (h : tSem X e σ H Q) (k : ∀ v H', Q v H' → Q' v H') : tSem X e σ H Q' :=
  fun pins s I => thn (h pins s I) fun _ _ ⟨v, H', I', r, q⟩ => ⟨v, H', I', r, k v H' q⟩
omit [TbT] in
theorem tSemT_mono {e : Expr} {σ : L2.St} {H : Hp} {Q Q' : Bool → Hp → Prop} (h : tSemT X e σ H Q) (k : ∀ v H', Q v H' → Q' v H') : tSemT X e σ H Q' :=
  fun pins s I => thn (h pins s I) fun _ _ ⟨H', I', q⟩ => ⟨H', I', k _ H' q⟩
omit [TbT] in
theorem tSemW_mono {e : Expr} {σ : L2.St} {H : Hp} {Q Q' : Bool → Hp → Prop} (h : tSemW X e σ H Q) (k : ∀ v H', Q v H' → Q' v H') : tSemW X e σ H Q' :=
  fun wh pins s I => thn (h wh pins s I) fun _ _ ⟨H', I', q⟩ => ⟨H', I', k _ H' q⟩
omit [TbT] in
theorem tSemA_mono {es : List Expr} {σ : L2.St} {H : Hp} {Q Q' : List V → Hp → Prop} (h : tSemA X es σ H Q) (k : ∀ v H', Q v H' → Q' v H') : tSemA X es σ H Q' :=
  fun pos pins s I => thn (h pos pins s I) fun _ _ ⟨v, H', I', r, q⟩ => ⟨v, H', I', r, k v H' q⟩

/-! ### the judgements -/
/-- e gives something of P, owned or data; nothing else changes -/
structure EO (X : Cx) (ex : Exs) (e : Expr) (ρ : List O) (P : O → Prop) : Prop where
  run : ∀ (E : Hp × Hp) (σ : L2.St) (G H : Hp), SOx X ex E ρ σ G H →
  tSem X e σ H fun v H' => ∃ o G', Grow G H G' H' ∧ OOk X.K H G' H' o v ∧ P o
instance {X : Cx} {ex : Exs} {e : Expr} {ρ : List O} {P : O → Prop} : CoeFun (EO X ex e ρ P) (fun _ => ∀ (E : Hp × Hp) (σ : L2.St) (G H : Hp), SOx X ex E ρ σ G H →   tSem X e σ H fun v H' => ∃ o G', Grow G H G' H' ∧ OOk X.K H G' H' o v ∧ P o) := ⟨EO.run⟩

/-- e gives the data d -/
structure EE (X : Cx) (ex : Exs) (e : Expr) (ρ : List O) (d : D) : Prop where
  run : ∀ (E : Hp × Hp) (σ : L2.St) (G H : Hp), SOx X ex E ρ σ G H →
  tSem X e σ H fun v H' => ∃ G', Grow G H G' H' ∧ Rep X.K G' v d
instance {X : Cx} {ex : Exs} {e : Expr} {ρ : List O} {d : D} : CoeFun (EE X ex e ρ d) (fun _ => ∀ (E : Hp × Hp) (σ : L2.St) (G H : Hp), SOx X ex E ρ σ G H →   tSem X e σ H fun v H' => ∃ G', Grow G H G' H' ∧ Rep X.K G' v d) := ⟨EE.run⟩

structure ET (X : Cx) (ex : Exs) (e : Expr) (ρ : List O) (b : Bool) : Prop where
  run : ∀ (E : Hp × Hp) (σ : L2.St) (G H : Hp), SOx X ex E ρ σ G H →
  tSemT X e σ H fun c H' => c = b ∧ ∃ G', Grow G H G' H'
instance {X : Cx} {ex : Exs} {e : Expr} {ρ : List O} {b : Bool} : CoeFun (ET X ex e ρ b) (fun _ => ∀ (E : Hp × Hp) (σ : L2.St) (G H : Hp), SOx X ex E ρ σ G H →   tSemT X e σ H fun c H' => c = b ∧ ∃ G', Grow G H G' H') := ⟨ET.run⟩

structure EW (X : Cx) (ex : Exs) (e : Expr) (ρ : List O) (b : Bool) : Prop where
  run : ∀ (E : Hp × Hp) (σ : L2.St) (G H : Hp), SOx X ex E ρ σ G H →
  tSemW X e σ H fun c H' => c = b ∧ ∃ G', Grow G H G' H'
instance {X : Cx} {ex : Exs} {e : Expr} {ρ : List O} {b : Bool} : CoeFun (EW X ex e ρ b) (fun _ => ∀ (E : Hp × Hp) (σ : L2.St) (G H : Hp), SOx X ex E ρ σ G H →   tSemW X e σ H fun c H' => c = b ∧ ∃ G', Grow G H G' H') := ⟨EW.run⟩

structure EA (X : Cx) (ex : Exs) (es : List Expr) (ρ : List O) (ds : List D) : Prop where
  run : ∀ (E : Hp × Hp) (σ : L2.St) (G H : Hp), SOx X ex E ρ σ G H →
  tSemA X es σ H fun vs H' => ∃ G', Grow G H G' H' ∧ RepL X.K G' vs ds
instance {X : Cx} {ex : Exs} {es : List Expr} {ρ : List O} {ds : List D} : CoeFun (EA X ex es ρ ds) (fun _ => ∀ (E : Hp × Hp) (σ : L2.St) (G H : Hp), SOx X ex E ρ σ G H →   tSemA X es σ H fun vs H' => ∃ G', Grow G H G' H' ∧ RepL X.K G' vs ds) := ⟨EA.run⟩

variable {ex : Exs} {ρ : List O} {e a b c : Expr} {es : List Expr} {d d1 d2 : D} {ds : List D} {pos : Pos} {i j : Int} {x : Str}
theorem EO.mono {P P' : O → Prop} (h : EO X ex e ρ P) (k : ∀ o, P o → P' o) : EO X ex e ρ P' := ⟨fun E σ G H S =>
  tSem_mono (h E σ G H S) fun _ _ ⟨o, G', g, r, p⟩ => ⟨o, G', g, r, k o p⟩⟩
theorem EE.eo (h : EE X ex e ρ d) : EO X ex e ρ (fun o => o = .va d) := ⟨fun E σ G H S =>
  tSem_mono (h E σ G H S) fun _ _ ⟨G', g, r⟩ => ⟨.va d, G', g, r, rfl⟩⟩
theorem EE.is (h : EE X ex e ρ d1) (q : d1 = d2) : EE X ex e ρ d2 := q ▸ h
theorem ET.is {b1 b2 : Bool} (h : ET X ex e ρ b1) (q : b1 = b2) : ET X ex e ρ b2 := q ▸ h
omit [TbT] in
/-- an owned list becomes data -/
theorem OOk.freeze {K : PySem.W.Frag} {H0 G H : Hp} {o : O} {v : V} (e : Ex G H) (q : OOk K H0 G H o v) (P : D → Prop) (hva : ∀ d, o = .va d → P d) (hml : ∀ ds, o = .ml ds → P (.lst ds)) (hn : (∃ d, o = .va d) ∨ ∃ ds, o = .ml ds) :
    ∃ d G', Ex G G' ∧ Ex G' H ∧ (∀ b, G b = none → G' b ≠ none → H0 b = none) ∧ Rep K G' v d ∧ P d := by
  rcases hn with ⟨d, rfl⟩ | ⟨ds, rfl⟩
  · exact ⟨d, G, Ex.refl _, e, fun b h q => absurd h q, q, hva d rfl⟩
  · obtain ⟨a, xs, rfl, h1, h2, h3, r⟩ := q
    refine ⟨.lst ds, upd G a (.lst xs), Ex.new h2, ?_, fun b h q => ?_, .lst upd_same (r.mono (Ex.new h2)), hml ds rfl⟩
    · refine ⟨fun b u h n => ?_, fun b ps h => ?_⟩
      · by_cases z : b = a
        · subst z; rw [upd_same] at h; cases h; exact h1
        · rw [upd_ne z] at h; exact e.keep b u h n
      · by_cases z : b = a
        · subst z; rw [upd_same] at h; cases h
        · rw [upd_ne z] at h; exact e.tb b ps h
    · by_cases z : b = a
      · subst z; exact h3
      · rw [upd_ne z] at q; exact absurd h q
theorem EO.ee {P : O → Prop} (h : EO X ex e ρ P) (hd : ∀ o, P o → o = .va d ∨ ∃ ds, o = .ml ds ∧ d = .lst ds) : EE X ex e ρ d := ⟨fun E σ G H S =>
  tSem_mono (h E σ G H S) fun v H' ⟨o, G', g, r, p⟩ => by
    have hn : (∃ d, o = .va d) ∨ ∃ ds, o = .ml ds := by
      rcases hd o p with h | ⟨ds, h, _⟩
      · exact .inl ⟨_, h⟩
      · exact .inr ⟨_, h⟩
    obtain ⟨d', G2, e1, e2, f, r', q⟩ := OOk.freeze g.gh r (fun x => x = d) (fun x hx => by
      rcases hd o p with h | ⟨_, h, _⟩ <;> rw [hx] at h <;> cases h
      rfl) (fun x hx => by
      rcases hd o p with h | ⟨_, h, h2⟩ <;> rw [hx] at h <;> cases h
      exact h2.symm) hn
    subst q
    refine ⟨G2, ⟨g.g.trans e1, g.h, e2, fun b h q => ?_, g.tb⟩, r'⟩
    cases z : G' b with
    | none => exact f b z q
    | some u => exact g.fr b h (by rw [z]; simp)⟩
theorem ee_lst (h : EO X ex e ρ (fun o => o = .ml ds)) : EE X ex e ρ (.lst ds) := h.ee fun o p => .inr ⟨ds, p, rfl⟩
theorem ee_va (h : EO X ex e ρ (fun o => o = .va d)) : EE X ex e ρ d := h.ee fun o p => .inl p

/-! ### names, constants -/
theorem ee_var (i : Nat) (hr : ρ[i]? = some (.va d)) (hN : X.N[i]? = some x := by rfl) (hv : Vis X.env.scope x := by first | exact Or.inl rfl | exact Or.inr (Or.inl rfl) | exact Or.inr (Or.inr rfl)) (hd : (x == ("__debug__" : Str)) = false := by decide)
    (hcd : (x == ("__classdict__" : Str)) = false := by decide) : EE X ex (.Name x pos) ρ d := ⟨fun E σ G H S => by
  obtain ⟨v, h1, r⟩ := S.get hr
  exact of_pe (pe_var hN hv hd hcd) ⟨v, h1, G, .refl S.gh, r⟩⟩
theorem ee_int {k} : EE X ex (.Constant (.int i) k pos) ρ (.int i) := ⟨fun E σ G H S => of_pe pe_int ⟨G, .refl S.gh, .int i⟩⟩
theorem ee_bl {t : Bool} {k} : EE X ex (.Constant (.bool t) k pos) ρ (.bl t) := ⟨fun E σ G H S => of_pe pe_bl ⟨G, .refl S.gh, .bl t⟩⟩
theorem ee_non {k} : EE X ex (.Constant .none k pos) ρ .non := ⟨fun E σ G H S => of_pe pe_non ⟨G, .refl S.gh, .non⟩⟩
theorem ee_str {t : Str} {k} : EE X ex (.Constant (.str t) k pos) ρ (.str t) := ⟨fun E σ G H S => of_pe pe_str ⟨G, .refl S.gh, .str t⟩⟩
/-- a constant of the module -/
theorem ee_glob {v : V} {u : Value} (hg : Gl X x) (hm : X.mg x = some u) (r : RelV v u) (hr : ∀ G, Rep X.K G v d) (hd : (x == ("__debug__" : Str)) = false := by decide) : EE X ex (.Name x pos) ρ d := ⟨fun E σ G H S =>
  of_pe (pe_glob hg hm r hd) ⟨G, .refl S.gh, hr G⟩⟩
/-- a built-in class as a value -/
theorem ee_ty {n : String} (hg : Gl X x) (hm : X.mg x = none) (hv : bootBuiltins x = some (.type n)) (hn : x ≠ "__name__" := by decide) (hd : (x == ("__debug__" : Str)) = false := by decide) : EE X ex (.Name x pos) ρ (.ty n) := ⟨fun E σ G H S =>
  of_pe (pe_bltn (v := .ty n) hg hm hv rfl hn hd) ⟨G, .refl S.gh, .ty n⟩⟩

/-! ### operators -/
/-- a two-place operation on data -/
def BinD (X : Cx) (r : R2) (d1 d2 d : D) : Prop := ∀ (G H : Hp) (v w : V) (Q : VK), Ex G H → Rep X.K G v d1 → Rep X.K G w d2 → (∀ u G' H', Grow G H G' H' → Rep X.K G' u d → Q u H') → r v w H Q
theorem ee_bin {op : Operator} {r : R2} (ho : OpR X (binaryOp op) r) (hr : BinD X r d1 d2 d) (ha : EE X ex a ρ d1) (hb : EE X ex b ρ d2) : EE X ex (.BinOp a op b pos) ρ d := ⟨fun E σ G H S =>
  of_pe (pe_op ho sem_pe sem_pe) (tSem_mono (ha E σ G H S) fun v H1 ⟨G1, g1, r1⟩ => tSem_mono (hb E σ G1 H1 (S.grow g1)) fun w H2 ⟨G2, g2, r2⟩ =>
    hr G2 H2 v w _ g2.gh (r1.mono g2.g) r2 fun u G3 H3 g3 r3 => ⟨G3, (g1.trans g2).trans g3, r3⟩)⟩
theorem ee_cmp {op : CmpOp} {r : R2} (ho : OpR X (compareOp op) r) (hr : BinD X r d1 d2 d) (ha : EE X ex a ρ d1) (hb : EE X ex b ρ d2) (hm : behindInMarks op b = false) : EE X ex (.Compare a [op] [b] pos) ρ d := ⟨fun E σ G H S =>
  of_pe (pe_cmpR ho sem_pe sem_pe hm) (tSem_mono (ha E σ G H S) fun v H1 ⟨G1, g1, r1⟩ => tSem_mono (hb E σ G1 H1 (S.grow g1)) fun w H2 ⟨G2, g2, r2⟩ =>
    hr G2 H2 v w _ g2.gh (r1.mono g2.g) r2 fun u G3 H3 g3 r3 => ⟨G3, (g1.trans g2).trans g3, r3⟩)⟩
theorem et_cmp {op : CmpOp} {r : R2} {t : Bool} (ho : OpR X (compareOp op) r) (hr : BinD X r d1 d2 (.bl t)) (ha : EE X ex a ρ d1) (hb : EE X ex b ρ d2) (hm : behindInMarks op b = false) : ET X ex (.Compare a [op] [b] pos) ρ t := ⟨fun E σ G H S =>
  of_pt (pt_cmpR ho sem_pe sem_pe hm) (tSem_mono (ha E σ G H S) fun v H1 ⟨G1, g1, r1⟩ => tSem_mono (hb E σ G1 H1 (S.grow g1)) fun w H2 ⟨G2, g2, r2⟩ =>
    hr G2 H2 v w _ g2.gh (r1.mono g2.g) r2 fun u G3 H3 g3 r3 => by cases r3; exact ⟨t, rfl, rfl, G3, (g1.trans g2).trans g3⟩)⟩
theorem bin_I0 {f : Int → Int → V} {g : Int → Int → D} (h : ∀ G i j, Rep X.K G (f i j) (g i j)) : BinD X (rI0 f) (.int i) (.int j) (g i j) := fun G H v w Q e r1 r2 q => by
  cases r1; cases r2
  exact ⟨i, j, rfl, rfl, q _ G H (.refl e) (h G i j)⟩
theorem bin_I {C : Int → Int → Prop} {f : Int → Int → V} {g : Int → Int → D} (hc : C i j) (h : ∀ G i j, Rep X.K G (f i j) (g i j)) : BinD X (rI C f) (.int i) (.int j) (g i j) := fun G H v w Q e r1 r2 q => by
  cases r1; cases r2
  exact ⟨i, j, rfl, rfl, hc, q _ G H (.refl e) (h G i j)⟩
theorem ee_add (ha : EE X ex a ρ (.int i)) (hb : EE X ex b ρ (.int j)) : EE X ex (.BinOp a .Add b pos) ρ (.int (i + j)) := ee_bin op_add (bin_I0 (g := fun i j => .int (i + j)) fun _ _ _ => .int _) ha hb
theorem ee_sub (ha : EE X ex a ρ (.int i)) (hb : EE X ex b ρ (.int j)) : EE X ex (.BinOp a .Sub b pos) ρ (.int (i - j)) := ee_bin op_sub (bin_I0 (g := fun i j => .int (i - j)) fun _ _ _ => .int _) ha hb
/-- * where the factors together are below a million bits -/
theorem ee_mul (ha : EE X ex a ρ (.int i)) (hb : EE X ex b ρ (.int j)) (hc : CMulW i j) : EE X ex (.BinOp a .Mult b pos) ρ (.int (i * j)) := ee_bin op_mulW (bin_I (g := fun i j => .int (i * j)) hc fun _ _ _ => .int _) ha hb
/-- // by any divisor but 0 below 2 ^ 9000 -/
def CDivV (_ j : Int) : Prop := j ≠ 0 ∧ j.natAbs.log2 < 9000
omit [TbT] in
theorem op_fdivV : OpR X (binaryOp .FloorDiv) (rI CDivV fun i j => .int (i.fdiv j)) := opI fun i j _ _ _ _ _ hc q => floordiv_int hc.1 q (.inl (PyProof.noPylong_of_log2 hc.2))
theorem ee_fdiv (ha : EE X ex a ρ (.int i)) (hb : EE X ex b ρ (.int j)) (hc : CDivV i j) : EE X ex (.BinOp a .FloorDiv b pos) ρ (.int (i.fdiv j)) := ee_bin op_fdivV (bin_I (g := fun i j => .int (i.fdiv j)) hc fun _ _ _ => .int _) ha hb
/-- // by a positive divisor -/
theorem ee_div (ha : EE X ex a ρ (.int i)) (hb : EE X ex b ρ (.int j)) (hc : CDivW i j) : EE X ex (.BinOp a .FloorDiv b pos) ρ (.int (i / j)) := ee_bin op_fdivW (bin_I (g := fun i j => .int (i / j)) hc fun _ _ _ => .int _) ha hb
theorem ee_mod (ha : EE X ex a ρ (.int i)) (hb : EE X ex b ρ (.int j)) (hc : 0 < j) : EE X ex (.BinOp a .Mod b pos) ρ (.int (i % j)) := ee_bin op_mod (bin_I (C := fun _ j => 0 < j) (g := fun i j => .int (i % j)) hc fun _ _ _ => .int _) ha hb
theorem ee_pow (ha : EE X ex a ρ (.int i)) (hb : EE X ex b ρ (.int j)) (hc : CPow i j) : EE X ex (.BinOp a .Pow b pos) ρ (.int (i ^ j.toNat)) := ee_bin op_pow (bin_I (g := fun i j => .int (i ^ j.toNat)) hc fun _ _ _ => .int _) ha hb
theorem ee_neg (ha : EE X ex a ρ (.int i)) : EE X ex (.UnaryOp .USub a pos) ρ (.int (-i)) := ⟨fun E σ G H S =>
  of_pe (pe_un un_neg sem_pe) (tSem_mono (ha E σ G H S) fun v H1 ⟨G1, g1, r1⟩ => by cases r1; exact ⟨i, rfl, G1, g1, .int _⟩)⟩

/-! ### comparisons of ints -/
theorem ee_lt (ha : EE X ex a ρ (.int i)) (hb : EE X ex b ρ (.int j)) : EE X ex (.Compare a [.Lt] [b] pos) ρ (.bl (decide (i < j))) := ee_cmp op_lt (bin_I0 (g := fun i j => .bl (decide (i < j))) fun _ _ _ => .bl _) ha hb (nomark _)
theorem ee_le (ha : EE X ex a ρ (.int i)) (hb : EE X ex b ρ (.int j)) : EE X ex (.Compare a [.LtE] [b] pos) ρ (.bl (decide (i ≤ j))) := ee_cmp op_le (bin_I0 (g := fun i j => .bl (decide (i ≤ j))) fun _ _ _ => .bl _) ha hb (nomark _)
theorem ee_gt (ha : EE X ex a ρ (.int i)) (hb : EE X ex b ρ (.int j)) : EE X ex (.Compare a [.Gt] [b] pos) ρ (.bl (decide (j < i))) := ee_cmp op_gt (bin_I0 (g := fun i j => .bl (decide (j < i))) fun _ _ _ => .bl _) ha hb (nomark _)
theorem ee_ge (ha : EE X ex a ρ (.int i)) (hb : EE X ex b ρ (.int j)) : EE X ex (.Compare a [.GtE] [b] pos) ρ (.bl (decide (j ≤ i))) := ee_cmp op_ge (bin_I0 (g := fun i j => .bl (decide (j ≤ i))) fun _ _ _ => .bl _) ha hb (nomark _)
theorem et_lt (ha : EE X ex a ρ (.int i)) (hb : EE X ex b ρ (.int j)) : ET X ex (.Compare a [.Lt] [b] pos) ρ (decide (i < j)) := et_cmp op_lt (bin_I0 (g := fun i j => .bl (decide (i < j))) fun _ _ _ => .bl _) ha hb (nomark _)
theorem et_le (ha : EE X ex a ρ (.int i)) (hb : EE X ex b ρ (.int j)) : ET X ex (.Compare a [.LtE] [b] pos) ρ (decide (i ≤ j)) := et_cmp op_le (bin_I0 (g := fun i j => .bl (decide (i ≤ j))) fun _ _ _ => .bl _) ha hb (nomark _)
theorem et_gt (ha : EE X ex a ρ (.int i)) (hb : EE X ex b ρ (.int j)) : ET X ex (.Compare a [.Gt] [b] pos) ρ (decide (j < i)) := et_cmp op_gt (bin_I0 (g := fun i j => .bl (decide (j < i))) fun _ _ _ => .bl _) ha hb (nomark _)
theorem et_ge (ha : EE X ex a ρ (.int i)) (hb : EE X ex b ρ (.int j)) : ET X ex (.Compare a [.GtE] [b] pos) ρ (decide (j ≤ i)) := et_cmp op_ge (bin_I0 (g := fun i j => .bl (decide (j ≤ i))) fun _ _ _ => .bl _) ha hb (nomark _)

/-! ### == and != of any data -/
omit [TbT] in
mutual
theorem D.canLay : ∀ d : D, d.plain = true → d.py.canLay0 = true
  | .non, _ => rfl
  | .bl _, _ => rfl
  | .int _, _ => rfl
  | .str _, h => h
  | .ty _, h => by cases h
  | .cst _, h => by cases h
  | .dct _ _, h => by cases h
  | .dci _ _, h => by cases h
  | .obj _ _ _, h => by cases h
  | .tup ds, h => D.canLays ds h
  | .lst ds, h => D.canLays ds h
theorem D.canLays : ∀ ds : List D, D.plains ds = true → PyData.canLayAll0 (D.pys ds) = true
  | [], _ => rfl
  | d :: r, h => by
    have h' : (D.plain d && D.plains r) = true := h
    rw [Bool.and_eq_true] at h'
    show (PyData.canLay0 d.py && PyData.canLayAll0 (D.pys r)) = true
    rw [D.canLay d h'.1, D.canLays r h'.2]; rfl
end
omit [TbT] in
mutual
theorem D.depth_py : ∀ d : D, d.py.depth ≤ d.depth
  | .non => Nat.le_refl _
  | .bl _ => Nat.le_refl _
  | .int _ => Nat.le_refl _
  | .str _ => Nat.le_refl _
  | .ty _ => Nat.le_refl _
  | .cst _ => Nat.le_refl _
  | .dct _ _ => Nat.le_refl _
  | .dci _ _ => Nat.le_refl _
  | .obj _ _ _ => Nat.le_refl _
  | .tup ds => Nat.succ_le_succ (D.depths_py ds)
  | .lst ds => Nat.succ_le_succ (D.depths_py ds)
theorem D.depths_py : ∀ ds : List D, PyData.depthAll (D.pys ds) ≤ D.depths ds
  | [] => Nat.le_refl _
  | d :: r => by
    have h1 := D.depth_py d
    have h2 := D.depths_py r
    show max d.py.depth (PyData.depthAll (D.pys r)) ≤ max d.depth (D.depths r)
    omega
end
/-- may be compared by == -/
def D.cmp (d : D) : Bool := d.plain && decide (d.depth ≤ 64)
omit [TbT] in
theorem D.shaped {d : D} (h : d.cmp = true) : SeqAt.shaped d.py = true := by
  have h' : (d.plain && decide (d.depth ≤ 64)) = true := h
  rw [Bool.and_eq_true] at h'
  unfold SeqAt.shaped
  rw [D.canLay d h'.1, decide_eq_true (Nat.le_trans (D.depth_py d) (of_decide_eq_true h'.2))]; rfl
def D.eqv (d e : D) : Bool := PyData.eqv d.py e.py
omit [TbT] in
mutual
theorem Rep.dp {K : PySem.W.Frag} {G H : Hp} (e : Ex G H) : ∀ {d : D} {v : V}, Rep K G v d → d.plain = true → Dp K H v d.py
  | .non, _, h, _ => by cases h; exact .non
  | .bl _, _, h, _ => by cases h; exact .bl _
  | .int _, _, h, _ => by cases h; exact .int _
  | .str _, _, h, _ => by cases h; exact .str _
  | .ty _, _, _, h => by cases h
  | .cst _, _, _, h => by cases h
  | .dct _ _, _, _, h => by cases h
  | .dci _ _, _, _, h => by cases h
  | .obj _ _ _, _, _, h => by cases h
  | .tup _, _, h, p => by
    cases h with
    | tup h r => exact .tup (e.t h) (RepL.dp e r p)
  | .lst _, _, h, p => by
    cases h with
    | lst h r => exact .lst (e.l h) (RepL.dp e r p)
theorem RepL.dp {K : PySem.W.Frag} {G H : Hp} (e : Ex G H) : ∀ {ds : List D} {vs : List V}, RepL K G vs ds → D.plains ds = true → DpAll K H vs (D.pys ds)
  | [], _, .nil, _ => .nil
  | d :: r, _, .cons h t, p => by
    have h' : (D.plain d && D.plains r) = true := p
    rw [Bool.and_eq_true] at h'
    exact .cons (Rep.dp e h h'.1) (RepL.dp e t h'.2)
end
omit [TbT] in
theorem D.plain_of {d : D} (h : d.cmp = true) : d.plain = true := (Bool.and_eq_true_iff.mp h).1
theorem bin_eq (h1 : d1.cmp = true) (h2 : d2.cmp = true) : BinD X (rEqD X.K) d1 d2 (.bl (D.eqv d1 d2)) := fun G H v w Q e r1 r2 q =>
  ⟨d1.py, d2.py, r1.dp e (D.plain_of h1), r2.dp e (D.plain_of h2), D.shaped h1, D.shaped h2, q _ G H (.refl e) (.bl _)⟩
theorem bin_ne (h1 : d1.cmp = true) (h2 : d2.cmp = true) : BinD X (rNeD X.K) d1 d2 (.bl (!D.eqv d1 d2)) := fun G H v w Q e r1 r2 q =>
  ⟨d1.py, d2.py, r1.dp e (D.plain_of h1), r2.dp e (D.plain_of h2), D.shaped h1, D.shaped h2, q _ G H (.refl e) (.bl _)⟩
theorem ee_eq (hu : X.A.units + 64 < cLine) (ha : EE X ex a ρ d1) (hb : EE X ex b ρ d2) (h1 : d1.cmp = true) (h2 : d2.cmp = true) : EE X ex (.Compare a [.Eq] [b] pos) ρ (.bl (D.eqv d1 d2)) := ee_cmp (op_eqD hu) (bin_eq h1 h2) ha hb (nomark _)
theorem ee_ne (hu : X.A.units + 64 < cLine) (ha : EE X ex a ρ d1) (hb : EE X ex b ρ d2) (h1 : d1.cmp = true) (h2 : d2.cmp = true) : EE X ex (.Compare a [.NotEq] [b] pos) ρ (.bl (!D.eqv d1 d2)) := ee_cmp (op_neD hu) (bin_ne h1 h2) ha hb (nomark _)
theorem et_eq (hu : X.A.units + 64 < cLine) (ha : EE X ex a ρ d1) (hb : EE X ex b ρ d2) (h1 : d1.cmp = true) (h2 : d2.cmp = true) : ET X ex (.Compare a [.Eq] [b] pos) ρ (D.eqv d1 d2) := et_cmp (op_eqD hu) (bin_eq h1 h2) ha hb (nomark _)
theorem et_ne (hu : X.A.units + 64 < cLine) (ha : EE X ex a ρ d1) (hb : EE X ex b ρ d2) (h1 : d1.cmp = true) (h2 : d2.cmp = true) : ET X ex (.Compare a [.NotEq] [b] pos) ρ (!D.eqv d1 d2) := et_cmp (op_neD hu) (bin_ne h1 h2) ha hb (nomark _)
omit [TbT] in
/-- of ints -/
theorem eqv_int (i j : Int) : D.eqv (.int i) (.int j) = decide (i = j) := Bool.beq_eq_decide_eq i j
omit [TbT] in
theorem eqv_bl (i j : Bool) : D.eqv (.bl i) (.bl j) = (i == j) := rfl
theorem ee_eqI (hu : X.A.units + 64 < cLine) (ha : EE X ex a ρ (.int i)) (hb : EE X ex b ρ (.int j)) : EE X ex (.Compare a [.Eq] [b] pos) ρ (.bl (decide (i = j))) := eqv_int i j ▸ ee_eq hu ha hb rfl rfl
theorem ee_neI (hu : X.A.units + 64 < cLine) (ha : EE X ex a ρ (.int i)) (hb : EE X ex b ρ (.int j)) : EE X ex (.Compare a [.NotEq] [b] pos) ρ (.bl (!decide (i = j))) := eqv_int i j ▸ ee_ne hu ha hb rfl rfl
theorem et_eqI (hu : X.A.units + 64 < cLine) (ha : EE X ex a ρ (.int i)) (hb : EE X ex b ρ (.int j)) : ET X ex (.Compare a [.Eq] [b] pos) ρ (decide (i = j)) := eqv_int i j ▸ et_eq hu ha hb rfl rfl
theorem et_neI (hu : X.A.units + 64 < cLine) (ha : EE X ex a ρ (.int i)) (hb : EE X ex b ρ (.int j)) : ET X ex (.Compare a [.NotEq] [b] pos) ρ (!decide (i = j)) := eqv_int i j ▸ et_ne hu ha hb rfl rfl
/-- is None -/
def D.isN : D → Bool
  | .non => true
  | _ => false
omit [TbT] in
theorem Rep.isN {K : PySem.W.Frag} {G : Hp} {v : V} {d : D} (r : Rep K G v d) : decide (v = .non) = d.isN := by
  cases r <;> rfl
theorem ee_isN {k pos'} (ha : EE X ex a ρ d) : EE X ex (.Compare a [.Is] [.Constant .none k pos'] pos) ρ (.bl d.isN) := ⟨fun E σ G H S =>
  of_pe (pe_cmp (pc_isN sem_pe) rfl) (tSem_mono (ha E σ G H S) fun v H1 ⟨G1, g1, r1⟩ => ⟨G1, g1, by rw [r1.isN]; exact .bl _⟩)⟩
theorem et_isN {k pos'} (ha : EE X ex a ρ d) : ET X ex (.Compare a [.Is] [.Constant .none k pos'] pos) ρ d.isN := ⟨fun E σ G H S =>
  of_pt (pt_cmp (pc_isN sem_pe) rfl) (tSem_mono (ha E σ G H S) fun v H1 ⟨G1, g1, r1⟩ => ⟨_, rfl, r1.isN, G1, g1⟩)⟩
theorem et_notN {k pos'} (ha : EE X ex a ρ d) : ET X ex (.Compare a [.IsNot] [.Constant .none k pos'] pos) ρ (!d.isN) := ⟨fun E σ G H S =>
  of_pt (pt_cmp (pc_notN sem_pe) rfl) (tSem_mono (ha E σ G H S) fun v H1 ⟨G1, g1, r1⟩ => ⟨_, rfl, by rw [r1.isN], G1, g1⟩)⟩

/-! ### tests -/
/-- the value of a bool as a test -/
theorem et_val {t : Bool} (h : EE X ex e ρ (.bl t)) (he : ∀ whole, isTrue e X.env whole = (do let v ← whole; standAt e.pos; holding [v] (truthy v)) := by intro _; rfl) : ET X ex e ρ t := ⟨fun E σ G H S =>
  of_pt (pt_val sem_pe he) (tSem_mono (h E σ G H S) fun v H1 ⟨G1, g1, r1⟩ => by cases r1; exact ⟨t, rfl, rfl, G1, g1⟩)⟩
theorem EW.et {t : Bool} (h : EW X ex e ρ t) : ET X ex e ρ t := ⟨fun E σ G H S pins s I => h E σ G H S _ pins s I⟩
theorem ew_and1 {t : Bool} (h : ET X ex a ρ t) : EW X ex (.BoolOp .And [a] pos) ρ t := ⟨fun E σ G H S => of_pw (pw_and1 sem_pt) (h E σ G H S)⟩
theorem ew_or1 {t : Bool} (h : ET X ex a ρ t) : EW X ex (.BoolOp .Or [a] pos) ρ t := ⟨fun E σ G H S => of_pw (pw_or1 sem_pt) (h E σ G H S)⟩
theorem ew_and {t u : Bool} {rest : List Expr} (h : ET X ex a ρ t) (k : t = true → EW X ex (.BoolOp .And (b :: rest) pos) ρ u) : EW X ex (.BoolOp .And (a :: b :: rest) pos) ρ (t && u) := ⟨fun E σ G H S =>
  of_pw (pw_and sem_pt sem_pw) (tSemT_mono (h E σ G H S) fun c H1 ⟨e1, G1, g1⟩ => by
    subst e1
    cases c with
    | true => rw [if_pos rfl]; exact tSemW_mono (k rfl E σ G1 H1 (S.grow g1)) fun c2 H2 ⟨e2, G2, g2⟩ => ⟨e2, G2, g1.trans g2⟩
    | false => rw [if_neg Bool.false_ne_true]; exact ⟨rfl, G1, g1⟩)⟩
theorem ew_or {t u : Bool} {rest : List Expr} (h : ET X ex a ρ t) (k : t = false → EW X ex (.BoolOp .Or (b :: rest) pos) ρ u) : EW X ex (.BoolOp .Or (a :: b :: rest) pos) ρ (t || u) := ⟨fun E σ G H S =>
  of_pw (pw_or sem_pt sem_pw) (tSemT_mono (h E σ G H S) fun c H1 ⟨e1, G1, g1⟩ => by
    subst e1
    cases c with
    | true => rw [if_pos rfl]; exact ⟨rfl, G1, g1⟩
    | false => rw [if_neg Bool.false_ne_true]; exact tSemW_mono (k rfl E σ G1 H1 (S.grow g1)) fun c2 H2 ⟨e2, G2, g2⟩ => ⟨e2, G2, g1.trans g2⟩)⟩
theorem et_not {t : Bool} (h : ET X ex a ρ t) : ET X ex (.UnaryOp .Not a pos) ρ (!t) := ⟨fun E σ G H S => of_pt (pt_not sem_pt) (tSemT_mono (h E σ G H S) fun c H1 ⟨e1, G1, g1⟩ => ⟨by rw [e1], G1, g1⟩)⟩
/-- .. as values -/
theorem ee_one {op} (h : EE X ex a ρ d) : EE X ex (.BoolOp op [a] pos) ρ d := ⟨fun E σ G H S => of_pe (pe_one sem_pe) (h E σ G H S)⟩
theorem ee_and {t u : Bool} {rest : List Expr} (h : EE X ex a ρ (.bl t)) (k : t = true → EE X ex (.BoolOp .And (b :: rest) pos) ρ (.bl u)) : EE X ex (.BoolOp .And (a :: b :: rest) pos) ρ (.bl (t && u)) := ⟨fun E σ G H S =>
  of_pe (pe_and sem_pe sem_pe) (tSem_mono (h E σ G H S) fun v H1 ⟨G1, g1, r1⟩ => by
    cases r1
    refine ⟨t, rfl, ?_⟩
    cases t with
    | true => rw [if_pos rfl]; exact tSem_mono (k rfl E σ G1 H1 (S.grow g1)) fun c2 H2 ⟨G2, g2, r2⟩ => ⟨G2, g1.trans g2, r2⟩
    | false => rw [if_neg Bool.false_ne_true]; exact ⟨G1, g1, .bl _⟩)⟩
theorem ee_or {t u : Bool} {rest : List Expr} (h : EE X ex a ρ (.bl t)) (k : t = false → EE X ex (.BoolOp .Or (b :: rest) pos) ρ (.bl u)) : EE X ex (.BoolOp .Or (a :: b :: rest) pos) ρ (.bl (t || u)) := ⟨fun E σ G H S =>
  of_pe (pe_or sem_pe sem_pe) (tSem_mono (h E σ G H S) fun v H1 ⟨G1, g1, r1⟩ => by
    cases r1
    refine ⟨t, rfl, ?_⟩
    cases t with
    | true => rw [if_pos rfl]; exact ⟨G1, g1, .bl _⟩
    | false => rw [if_neg Bool.false_ne_true]; exact tSem_mono (k rfl E σ G1 H1 (S.grow g1)) fun c2 H2 ⟨G2, g2, r2⟩ => ⟨G2, g1.trans g2, r2⟩)⟩
theorem ee_not {t : Bool} (h : EE X ex a ρ (.bl t)) : EE X ex (.UnaryOp .Not a pos) ρ (.bl (!t)) := ⟨fun E σ G H S =>
  of_pe (pe_not sem_pe) (tSem_mono (h E σ G H S) fun v H1 ⟨G1, g1, r1⟩ => by cases r1; exact ⟨t, rfl, G1, g1, .bl _⟩)⟩
theorem ee_if {t : Bool} (hc : ET X ex c ρ t) (h1 : t = true → EE X ex a ρ d1) (h2 : t = false → EE X ex b ρ d2) : EE X ex (.IfExp c a b pos) ρ (if t then d1 else d2) := ⟨fun E σ G H S =>
  of_pe (pe_ifExp sem_pt sem_pe sem_pe) (tSemT_mono (hc E σ G H S) fun k H1 ⟨e1, G1, g1⟩ => by
    subst e1
    cases k with
    | true => rw [if_pos rfl]; exact tSem_mono (h1 rfl E σ G1 H1 (S.grow g1)) fun c2 H2 ⟨G2, g2, r2⟩ => ⟨G2, g1.trans g2, r2⟩
    | false => rw [if_neg Bool.false_ne_true]; exact tSem_mono (h2 rfl E σ G1 H1 (S.grow g1)) fun c2 H2 ⟨G2, g2, r2⟩ => ⟨G2, g1.trans g2, r2⟩)⟩

/-! ### arguments, tuples, lists -/
theorem ea_nil : EA X ex [] ρ [] := ⟨fun E σ G H S => of_pa pa_nil ⟨G, .refl S.gh, .nil⟩⟩
theorem ea_cons (h : EE X ex e ρ d) (t : EA X ex es ρ ds) (hs : starEach (e :: es) X.env = (false, eval e X.env) :: starEach es X.env := by rfl) : EA X ex (e :: es) ρ (d :: ds) := ⟨fun E σ G H S =>
  of_pa (pa_cons sem_pe sem_pa hs) (tSem_mono (h E σ G H S) fun v H1 ⟨G1, g1, r1⟩ => tSemA_mono (t E σ G1 H1 (S.grow g1)) fun vs H2 ⟨G2, g2, r2⟩ => ⟨G2, g1.trans g2, .cons (r1.mono g2.g) r2⟩)⟩
omit [TbT] in
theorem len_ok {ds : List D} (h : Nat.ble ds.length 64 = true) : ds.length ≤ sizeLine := Nat.le_trans (Nat.le_of_ble_eq_true h) (by decide)
theorem ee_tup {k} (h : EA X ex es ρ ds) (hl : ds.length ≤ sizeLine := by exact len_ok rfl) : EE X ex (.Tuple es k pos) ρ (.tup ds) := ⟨fun E σ G H S =>
  of_pe (pe_tup sem_pa) (tSemA_mono (h E σ G H S) fun vs H1 ⟨G1, g1, r1⟩ => ⟨by rw [r1.length]; exact hl, fun p hp =>
    have g2 := Grow.new (u := .tup vs) g1.gh hp
    ⟨_, g1.trans g2, .tup (.inl (.inl upd_same)) (r1.mono g2.g)⟩⟩)⟩
theorem eo_lst (h : EA X ex es ρ ds) (hl : ds.length ≤ sizeLine := by exact len_ok rfl) : EO X ex (.List es pos) ρ (fun o => o = .ml ds) := ⟨fun E σ G H S =>
  of_pe (pe_lst sem_pa) (tSemA_mono (h E σ G H S) fun vs H1 ⟨G1, g1, r1⟩ => ⟨by rw [r1.length]; exact hl, fun p hp =>
    have g2 := Grow.newH (u := .lst vs) g1.gh hp
    ⟨.ml ds, _, g1.trans g2, ⟨p, vs, rfl, upd_same, g1.gh.back hp, g1.h.back hp, r1⟩, rfl⟩⟩)⟩

/-! ### an item -/
def D.items : D → Option (List D)
  | .tup ds => some ds
  | .lst ds => some ds
  | .cst ds => some ds
  | _ => none
omit [TbT] in
theorem RepL.atI {K : PySem.W.Frag} {G : Hp} {ds : List D} {xs : List V} {n : Int} {d : D} (r : RepL K G xs ds) (h : atI ds n = some d) : ∃ v, atI xs n = some v ∧ Rep K G v d := by
  unfold L2.atI at h ⊢
  rw [r.length]
  cases e : ixN ds.length n with
  | none => rw [e] at h; cases h
  | some j =>
    rw [e] at h
    exact r.get h
theorem bin_ix (hi : d1.items = some ds) (ha : atI ds i = some d) : BinD X (rIx X.K) d1 (.int i) d := fun G H v w Q e r1 r2 q => by
  cases r2
  cases r1 with
  | tup h r =>
    cases hi
    obtain ⟨u, hu, ru⟩ := r.atI ha
    exact .inr (.inl ⟨_, _, i, u, rfl, rfl, e.t h, hu, q u G H (.refl e) ru⟩)
  | lst h r =>
    cases hi
    obtain ⟨u, hu, ru⟩ := r.atI ha
    exact .inl ⟨_, _, i, u, rfl, rfl, e.l h, hu, q u G H (.refl e) ru⟩
  | cst h r =>
    cases hi
    obtain ⟨u, hu, ru⟩ := r.atI ha
    exact .inl ⟨_, _, i, u, rfl, rfl, e.lc h, hu, q u G H (.refl e) ru⟩
  | _ => cases hi
theorem ee_ix (ha : EE X ex a ρ d1) (hb : EE X ex b ρ (.int i)) (hi : d1.items = some ds) (h : atI ds i = some d) (hs : PlainIx b := by exact fun _ _ => rfl) : EE X ex (.Subscript a b pos) ρ d := ⟨fun E σ G H S =>
  of_pe (pe_ix ix_seq sem_pe sem_pe hs) (tSem_mono (ha E σ G H S) fun v H1 ⟨G1, g1, r1⟩ => tSem_mono (hb E σ G1 H1 (S.grow g1)) fun w H2 ⟨G2, g2, r2⟩ =>
    bin_ix hi h G2 H2 v w _ g2.gh (r1.mono g2.g) r2 fun u G3 H3 g3 r3 => ⟨G3, (g1.trans g2).trans g3, r3⟩)⟩

/-! ### calls of built-ins -/
/-- a built-in on data -/
def CalD (X : Cx) (r : List V → Hp → VK → Prop) (ds : List D) (P : O → Prop) : Prop := ∀ (G H : Hp) (vs : List V) (Q : VK), Ex G H → RepL X.K G vs ds → (∀ u o G' H', Grow G H G' H' → OOk X.K H G' H' o u → P o → Q u H') → r vs H Q
theorem eo_blt {id : String} {r : List V → Hp → VK → Prop} {P : O → Prop} {p : Pos} (hc : CallR X (.builtin id) r) (hr : CalD X r ds P) (hg : Gl X x) (hm : X.mg x = none) (hv : bootBuiltins x = some (.builtin id)) (ha : EA X ex (e :: es) ρ ds) (hn : x ≠ "__name__" := by decide) (hdb : (x == ("__debug__" : Str)) = false := by decide)
    (he : starEach (e :: es) X.env = (false, eval e X.env) :: starEach es X.env := by rfl) (hpl : (backTo pos (starEach es X.env)).any (·.1) = false := by rfl) : EO X ex (.Call (.Name x p) (e :: es) [] pos) ρ P := ⟨fun E σ G H S =>
  of_pe (pe_callB hc hg hm hv sem_pa hn hdb he hpl) (tSemA_mono (ha E σ G H S) fun vs H1 ⟨G1, g1, r1⟩ =>
    hr G1 H1 vs _ g1.gh r1 fun u o G2 H2 g2 q p => ⟨o, G2, g1.trans g2, q.h0 g1.h, p⟩)⟩
theorem eo_cty {T : String} {r : List V → Hp → VK → Prop} {P : O → Prop} {p : Pos} (hc : CallR X (.type T) r) (hr : CalD X r ds P) (hg : Gl X x) (hm : X.mg x = none) (hv : bootBuiltins x = some (.type T)) (ha : EA X ex (e :: es) ρ ds) (hn : x ≠ "__name__" := by decide) (hdb : (x == ("__debug__" : Str)) = false := by decide)
    (he : starEach (e :: es) X.env = (false, eval e X.env) :: starEach es X.env := by rfl) (hpl : (backTo pos (starEach es X.env)).any (·.1) = false := by rfl) : EO X ex (.Call (.Name x p) (e :: es) [] pos) ρ P := ⟨fun E σ G H S =>
  of_pe (pe_callTy hc hg hm hv sem_pa hn hdb he hpl) (tSemA_mono (ha E σ G H S) fun vs H1 ⟨G1, g1, r1⟩ =>
    hr G1 H1 vs _ g1.gh r1 fun u o G2 H2 g2 q p => ⟨o, G2, g1.trans g2, q.h0 g1.h, p⟩)⟩
omit [TbT] in
theorem RepL.of1 {K : PySem.W.Frag} {G : Hp} {vs : List V} {d : D} (r : RepL K G vs [d]) : ∃ v, vs = [v] ∧ Rep K G v d := by
  cases r with
  | cons h t => cases t; exact ⟨_, rfl, h⟩
omit [TbT] in
theorem RepL.of2 {K : PySem.W.Frag} {G : Hp} {vs : List V} {d e : D} (r : RepL K G vs [d, e]) : ∃ v w, vs = [v, w] ∧ Rep K G v d ∧ Rep K G w e := by
  cases r with
  | cons h t =>
    cases t with
    | cons h' t' => cases t'; exact ⟨_, _, rfl, h, h'⟩
variable {p : Pos}
theorem ee_abs (hg : Gl X "abs") (hm : X.mg "abs" = none) (ha : EA X ex [e] ρ [.int i]) (he : starEach [e] X.env = (false, eval e X.env) :: starEach [] X.env := by rfl) (hpl : (backTo pos (starEach [] X.env)).any (·.1) = false := by rfl) : EE X ex (.Call (.Name "abs" p) [e] [] pos) ρ (.int (if i < 0 then -i else i)) :=
  ee_va (eo_blt call_abs (fun G H vs Q e r q => by
    obtain ⟨v, rfl, r1⟩ := r.of1
    cases r1
    exact ⟨i, rfl, q _ (.va _) G H (.refl e) (.int _) rfl⟩) hg hm (by decide +kernel) ha (by decide) (by decide) he hpl)
theorem ee_toInt (hg : Gl X "int") (hm : X.mg "int" = none) (ha : EA X ex [e] ρ [.int i]) (he : starEach [e] X.env = (false, eval e X.env) :: starEach [] X.env := by rfl) (hpl : (backTo pos (starEach [] X.env)).any (·.1) = false := by rfl) : EE X ex (.Call (.Name "int" p) [e] [] pos) ρ (.int i) :=
  ee_va (eo_cty call_int1 (fun G H vs Q e r q => by
    obtain ⟨v, rfl, r1⟩ := r.of1
    cases r1
    exact .inl ⟨i, rfl, q _ (.va _) G H (.refl e) (.int _) rfl⟩) hg hm (by decide +kernel) ha (by decide) (by decide) he hpl)
theorem ee_len (hg : Gl X "len") (hm : X.mg "len" = none) (ha : EA X ex [e] ρ [d]) (hi : d.items = some ds) (he : starEach [e] X.env = (false, eval e X.env) :: starEach [] X.env := by rfl) (hpl : (backTo pos (starEach [] X.env)).any (·.1) = false := by rfl) : EE X ex (.Call (.Name "len" p) [e] [] pos) ρ (.int ds.length) :=
  ee_va (eo_blt call_len_seq (fun G H vs Q e r q => by
    obtain ⟨v, rfl, r1⟩ := r.of1
    cases r1 with
    | tup h r2 =>
      cases hi
      exact ⟨_, _, rfl, .inr (e.t h), q _ (.va (.int _)) G H (.refl e) (by rw [r2.length]; exact .int _) rfl⟩
    | lst h r2 =>
      cases hi
      exact ⟨_, _, rfl, .inl (e.l h), q _ (.va (.int _)) G H (.refl e) (by rw [r2.length]; exact .int _) rfl⟩
    | cst h r2 =>
      cases hi
      exact ⟨_, _, rfl, .inl (e.lc h), q _ (.va (.int _)) G H (.refl e) (by rw [r2.length]; exact .int _) rfl⟩
    | _ => cases hi) hg hm (by decide +kernel) ha (by decide) (by decide) he hpl)
/-- the type of data, as isinstance asks -/
def D.tyN : D → String
  | .non => "NoneType"
  | .bl _ => "bool"
  | .int _ => "int"
  | .str _ => "str"
  | .ty _ => ""
  | .cst _ => ""
  | .dct _ _ => ""
  | .dci _ _ => ""
  | .obj _ _ _ => ""
  | .tup _ => "tuple"
  | .lst _ => "list"
omit [TbT] in
theorem Rep.tyX {K : PySem.W.Frag} {G H : Hp} {v : V} {d : D} (e : Ex G H) (r : Rep K G v d) (h : d.tyN ≠ "") : TyX K H v (.type d.tyN) := by
  cases r with
  | non => exact .base .non
  | bl b => exact .base (.bl b)
  | int b => exact .base (.int b)
  | str b => exact .base (.str b)
  | ty n => exact absurd rfl h
  | cst _ _ => exact absurd rfl h
  | dct _ _ _ _ _ _ _ => exact absurd rfl h
  | dci _ _ _ _ => exact absurd rfl h
  | obj _ _ _ _ => exact absurd rfl h
  | tup h' r =>
    rcases h' with (h' | ⟨o, h'⟩) | ⟨o, _, _, h', c, _⟩
    · exact .base (.tup (e.app _ _ h'))
    · exact .fTuple (e.app _ _ h')
    · exact .kTuple h' c
  | lst h' r =>
    exact .base (.lst (e.app _ _ h'))
theorem ee_isi {n : String} {t : Bool} (hg : Gl X "isinstance") (hm : X.mg "isinstance" = none) (ha : EA X ex [a, b] ρ [d, .ty n]) (hk : kitB d.tyN n = some t) (hn : d.tyN ≠ "") (he : starEach [a, b] X.env = (false, eval a X.env) :: starEach [b] X.env := by rfl) (hpl : (backTo pos (starEach [b] X.env)).any (·.1) = false := by rfl) : EE X ex (.Call (.Name "isinstance" p) [a, b] [] pos) ρ (.bl t) :=
  ee_va (eo_blt call_isi (fun G H vs Q e r q => by
    obtain ⟨v, w, rfl, r1, r2⟩ := r.of2
    cases r2
    exact ⟨v, _, _, _, t, rfl, .ty n, r1.tyX e hn, kit_ty hk, q _ (.va _) G H (.refl e) (.bl _) rfl⟩) hg hm (by decide +kernel) ha (by decide) (by decide) he hpl)
/-- isinstance(d, tuple | list | int | bool | str) -/
def isAT (t n : String) : Bool := t == n || (t == "bool" && n == "int")
def D.isA (d : D) (n : String) : Bool := isAT d.tyN n
def isAName (n : String) : Bool := n == "bool" || n == "int" || n == "str" || n == "tuple" || n == "list"
def tyNames : List String := ["NoneType", "bool", "int", "str", "tuple", "list"]
omit [TbT] in
theorem kitB_names : ∀ t ∈ tyNames, ∀ n ∈ ["bool", "int", "str", "tuple", "list"], kitB t n = some (isAT t n) := by decide +kernel
omit [TbT] in
theorem tyN_mem {d : D} (h : d.tyN ≠ "") : d.tyN ∈ tyNames := by
  cases d <;> first
    | exact absurd rfl h
    | simp [D.tyN, tyNames]
omit [TbT] in
theorem kitB_isA {d : D} {n : String} (hn : isAName n = true) (h : d.tyN ≠ "") : kitB d.tyN n = some (d.isA n) := by
  refine kitB_names _ (tyN_mem h) n ?_
  simp only [isAName, Bool.or_eq_true, beq_iff_eq] at hn
  rcases hn with (((h | h) | h) | h) | h <;> (subst h; simp)
theorem ee_isA {n : String} (hg : Gl X "isinstance") (hm : X.mg "isinstance" = none) (ha : EA X ex [a, b] ρ [d, .ty n]) (hk : isAName n = true) (hn : d.tyN ≠ "") (he : starEach [a, b] X.env = (false, eval a X.env) :: starEach [b] X.env := by rfl) (hpl : (backTo pos (starEach [b] X.env)).any (·.1) = false := by rfl) : EE X ex (.Call (.Name "isinstance" p) [a, b] [] pos) ρ (.bl (d.isA n)) := ee_isi hg hm ha (kitB_isA hk hn) hn he hpl

/-! ### calls of the text's defs -/
/-- a def's promise over data -/
structure Spc where
  S : List D → (O → Prop) → Prop
  mono : ∀ ds (Q Q' : O → Prop), (∀ o, Q o → Q' o) → S ds Q → S ds Q'
/-- a function: the arguments by x, what it asks of them, what comes back -/
def Spc.fn {α : Type} (args : α → List D) (pre : α → Prop) (res : α → O) : Spc := ⟨fun ds Q => ∃ x, ds = args x ∧ pre x ∧ Q (res x), fun _ _ _ k ⟨x, e, p, q⟩ => ⟨x, e, p, k _ q⟩⟩
/-- .. by a relation -/
def Spc.rel {α : Type} (args : α → List D) (pre : α → Prop) (post : α → O → Prop) : Spc := ⟨fun ds Q => ∃ x, ds = args x ∧ pre x ∧ ∀ o, post x o → Q o, fun _ _ _ k ⟨x, e, p, q⟩ => ⟨x, e, p, fun o h => k _ (q o h)⟩⟩
def spOf (K : PySem.W.Frag) (S : Spc) : Sp := fun vs H Q _ => Tb H ∧ ∃ ds G, Ex G H ∧ RepL K G vs ds ∧ S.S ds fun o => ∀ v G' H', Grow G H G' H' → OOk K H G' H' o v → Q v H'
section
variable {CX : CXT} {k : Nat} {f : Addr} {fd : FuncData} {ps : List Str} {S : Spc} {P : O → Prop} {dvs : List V} {dds : List D} {dus : List Value}
/-- f(..) : the written arguments, then the defaults -/
theorem eo_call (F : FnOk X.prog X.w X.K X.mg X.base CX k f fd ps (spOf X.K S)) (hr : Room k X.A) (hm : X.mg x = some (.ref f)) (hk : PySem.W.keepIn X.K (.ref f) = true) (hb : Binds X.K fd ps dus) (hd : Vals dvs dus) (hD : ∀ G, RepL X.K G dvs dds) (hx : Passes CX X E0)
    (ha : EA X ex (e :: es) ρ ds) (hq : S.S (ds ++ dds) P) (hg : Gl X x := by rfl) (hdb : (x == ("__debug__" : Str)) = false := by decide) (he : starEach (e :: es) X.env = (false, eval e X.env) :: starEach es X.env := by rfl) (hpl : (backTo pos (starEach es X.env)).any (·.1) = false := by rfl) :
    EO X ex (.Call (.Name x p) (e :: es) [] pos) ρ P := ⟨fun E σ G H Sk =>
  of_pe (pe_call F hr hg hm hk hb hd hx sem_pa hdb he hpl) (tSemA_mono (ha E σ G H Sk) fun vs H1 ⟨G1, g1, r1⟩ =>
    ⟨g1.tb Sk.tb, ds ++ dds, G1, g1.gh, r1.append (hD G1), S.mono _ _ _ (fun o hP v G2 H2 g2 q => ⟨o, G2, g1.trans g2, q.h0 g1.h, hP⟩) hq⟩)⟩
theorem eo_call0 (F : FnOk X.prog X.w X.K X.mg X.base CX k f fd ps (spOf X.K S)) (hr : Room k X.A) (hm : X.mg x = some (.ref f)) (hk : PySem.W.keepIn X.K (.ref f) = true) (hb : Binds X.K fd ps dus) (hd : Vals dvs dus) (hD : ∀ G, RepL X.K G dvs dds) (hx : Passes CX X E0)
    (hq : S.S dds P) (hg : Gl X x := by rfl) (hdb : (x == ("__debug__" : Str)) = false := by decide) :
    EO X ex (.Call (.Name x p) [] [] pos) ρ P := ⟨fun E σ G H Sk =>
  of_pe (pe_call0 F hr hg hm hk hb hd hx hdb) ⟨Sk.tb, dds, G, Sk.gh, hD G, S.mono _ _ _ (fun o hP v G2 H2 g2 q => ⟨o, G2, g2, q, hP⟩) hq⟩⟩
end
end
end TG
/-! Statements over plain data. -/
namespace TG
open PySem PySem.Spec PyProof.Rows L2
variable [TbT]

structure Eds where
  nx : List O → Prop
  rt : O → Prop
  bk : List O → Prop := fun _ => False
  ct : List O → Prop := fun _ => False
/-- what comes back of a def -/
structure ROk (K : PySem.W.Frag) (E : Hp × Hp) (o : O) (v : V) (G H : Hp) : Prop where
  g0 : Ex E.1 G
  gh : Ex G H
  h0 : Ex E.2 H
  fr : ∀ b, E.1 b = none → G b ≠ none → E.2 b = none
  ok : OOk K E.2 G H o v
  tb : Tb H
def lift (K : PySem.W.Frag) (E : Hp × Hp) (G : Hp) (W : Eds) : Ends where
  nx := fun σ' H' => ∃ ρ' G', SOk K E ρ' σ' G' H' ∧ Ex G G' ∧ W.nx ρ'
  rt := fun v H' => ∃ o G', ROk K E o v G' H' ∧ W.rt o
  bk := fun σ' H' => ∃ ρ' G', SOk K E ρ' σ' G' H' ∧ Ex G G' ∧ W.bk ρ'
  ct := fun σ' H' => ∃ ρ' G', SOk K E ρ' σ' G' H' ∧ Ex G G' ∧ W.ct ρ'
structure WS (X : Cx) (ex : Exs) (st : Stmt) (ρ : List O) (W : Eds) : Prop where
  run : ∀ (E : Hp × Hp) (σ : L2.St) (G H : Hp), SOx X ex E ρ σ G H → tSemS X st (lift X.K E G W) σ H
instance {X : Cx} {ex : Exs} {st : Stmt} {ρ : List O} {W : Eds} : CoeFun (WS X ex st ρ W) (fun _ => ∀ (E : Hp × Hp) (σ : L2.St) (G H : Hp), SOx X ex E ρ σ G H → tSemS X st (lift X.K E G W) σ H) := ⟨WS.run⟩

structure WSs (X : Cx) (ex : Exs) (st : List Stmt) (ρ : List O) (W : Eds) : Prop where
  run : ∀ (E : Hp × Hp) (σ : L2.St) (G H : Hp), SOx X ex E ρ σ G H → tSemSs X st (lift X.K E G W) σ H
instance {X : Cx} {ex : Exs} {st : List Stmt} {ρ : List O} {W : Eds} : CoeFun (WSs X ex st ρ W) (fun _ => ∀ (E : Hp × Hp) (σ : L2.St) (G H : Hp), SOx X ex E ρ σ G H → tSemSs X st (lift X.K E G W) σ H) := ⟨WSs.run⟩

section
variable {X : Cx} {ex : Exs} {ρ : List O} {e : Expr} {st : Stmt} {rest : List Stmt} {W : Eds} {d : D} {ds : List D} {pos pos' : Pos} {i : Nat} {x : Str}
omit [TbT] in
theorem tSemS_mono {W W' : Ends} {σ : L2.St} {H : Hp} (h : tSemS X st W σ H) (n : ∀ σ H, W.nx σ H → W'.nx σ H) (r : ∀ v H, W.rt v H → W'.rt v H) (b : ∀ σ H, W.bk σ H → W'.bk σ H) (c : ∀ σ H, W.ct σ H → W'.ct σ H) : tSemS X st W' σ H := fun pins s I =>
  thn (h pins s I) fun f s' q => by
    cases f with
    | next => obtain ⟨σ', H', I', q⟩ := q; exact ⟨σ', H', I', n _ _ q⟩
    | brk => obtain ⟨σ', H', I', q⟩ := q; exact ⟨σ', H', I', b _ _ q⟩
    | cont => obtain ⟨σ', H', I', q⟩ := q; exact ⟨σ', H', I', c _ _ q⟩
    | ret u => obtain ⟨v, σ', H', I', rv, q⟩ := q; exact ⟨v, σ', H', I', rv, r _ _ q⟩
omit [TbT] in
theorem tSemSs_mono {sts : List Stmt} {W W' : Ends} {σ : L2.St} {H : Hp} (h : tSemSs X sts W σ H) (n : ∀ σ H, W.nx σ H → W'.nx σ H) (r : ∀ v H, W.rt v H → W'.rt v H) (b : ∀ σ H, W.bk σ H → W'.bk σ H) (c : ∀ σ H, W.ct σ H → W'.ct σ H) : tSemSs X sts W' σ H := fun pins s I =>
  thn (h pins s I) fun f s' q => by
    cases f with
    | next => obtain ⟨σ', H', I', q⟩ := q; exact ⟨σ', H', I', n _ _ q⟩
    | brk => obtain ⟨σ', H', I', q⟩ := q; exact ⟨σ', H', I', b _ _ q⟩
    | cont => obtain ⟨σ', H', I', q⟩ := q; exact ⟨σ', H', I', c _ _ q⟩
    | ret u => obtain ⟨v, σ', H', I', rv, q⟩ := q; exact ⟨v, σ', H', I', rv, r _ _ q⟩
theorem up_ex {K : PySem.W.Frag} {E : Hp × Hp} {G G1 : Hp} (e : Ex G G1) {P : List O → Prop} {σ : L2.St} {H : Hp} (h : ∃ ρ' G', SOk K E ρ' σ G' H ∧ Ex G1 G' ∧ P ρ') : ∃ ρ' G', SOk K E ρ' σ G' H ∧ Ex G G' ∧ P ρ' :=
  let ⟨ρ', G', S, x, p⟩ := h; ⟨ρ', G', S, e.trans x, p⟩
theorem WSs.go {sts : List Stmt} (h : WSs X ex sts ρ W) {E : Hp × Hp} {σ : L2.St} {G G1 H : Hp} (S : SOx X ex E ρ σ G1 H) (e : Ex G G1) : tSemSs X sts (lift X.K E G W) σ H :=
  tSemSs_mono (h E σ G1 H S) (fun _ _ => up_ex e) (fun _ _ h => h) (fun _ _ => up_ex e) (fun _ _ => up_ex e)
theorem WS.go (h : WS X ex st ρ W) {E : Hp × Hp} {σ : L2.St} {G G1 H : Hp} (S : SOx X ex E ρ σ G1 H) (e : Ex G G1) : tSemS X st (lift X.K E G W) σ H :=
  tSemS_mono (h E σ G1 H S) (fun _ _ => up_ex e) (fun _ _ h => h) (fun _ _ => up_ex e) (fun _ _ => up_ex e)
theorem WSs.mono {sts : List Stmt} {W' : Eds} (h : WSs X ex sts ρ W) (n : ∀ ρ, W.nx ρ → W'.nx ρ) (r : ∀ o, W.rt o → W'.rt o) (b : ∀ ρ, W.bk ρ → W'.bk ρ) (c : ∀ ρ, W.ct ρ → W'.ct ρ) : WSs X ex sts ρ W' := ⟨fun E σ G H S =>
  tSemSs_mono (h E σ G H S) (fun _ _ ⟨a, b', s, x, p⟩ => ⟨a, b', s, x, n _ p⟩) (fun _ _ ⟨a, b', s, p⟩ => ⟨a, b', s, r _ p⟩) (fun _ _ ⟨a, b', s, x, p⟩ => ⟨a, b', s, x, b _ p⟩) (fun _ _ ⟨a, b', s, x, p⟩ => ⟨a, b', s, x, c _ p⟩)⟩
theorem WS.mono {W' : Eds} (h : WS X ex st ρ W) (n : ∀ ρ, W.nx ρ → W'.nx ρ) (r : ∀ o, W.rt o → W'.rt o) (b : ∀ ρ, W.bk ρ → W'.bk ρ) (c : ∀ ρ, W.ct ρ → W'.ct ρ) : WS X ex st ρ W' := ⟨fun E σ G H S =>
  tSemS_mono (h E σ G H S) (fun _ _ ⟨a, b', s, x, p⟩ => ⟨a, b', s, x, n _ p⟩) (fun _ _ ⟨a, b', s, p⟩ => ⟨a, b', s, r _ p⟩) (fun _ _ ⟨a, b', s, x, p⟩ => ⟨a, b', s, x, b _ p⟩) (fun _ _ ⟨a, b', s, x, p⟩ => ⟨a, b', s, x, c _ p⟩)⟩

/-! ### blocks -/
theorem ws_nil (h : W.nx ρ) : WSs X ex [] ρ W := ⟨fun E σ G H S => of_pss pss_nil ⟨ρ, G, S, Ex.refl _, h⟩⟩
/-- a statement, then the rest -/
theorem ws_cons (h : WS X ex st ρ { W with nx := fun ρ' => WSs X ex rest ρ' W }) : WSs X ex (st :: rest) ρ W := ⟨fun E σ G H S =>
  of_pss (pss_cons sem_ps sem_pss) (tSemS_mono (h E σ G H S) (fun _ _ ⟨ρ', G', S', x, q⟩ => q.go (S.at S' x) x) (fun _ _ h => h) (fun _ _ h => h) (fun _ _ h => h))⟩
theorem ws_one (h : WS X ex st ρ W) : WSs X ex [st] ρ W := ⟨fun E σ G H S => of_pss (pss_one sem_ps) (h E σ G H S)⟩
/-- a word between a statement and the rest -/
theorem ws_cut (M : List O → Prop) (h : WS X ex st ρ { W with nx := M }) (k : ∀ ρ', M ρ' → WSs X ex rest ρ' W) : WSs X ex (st :: rest) ρ W := ws_cons (h.mono k (fun _ h => h) (fun _ h => h) (fun _ h => h))
/-- slots forgotten -/
theorem ws_le {sts : List Stmt} {ρ' : List O} (l : Le ρ ρ') (h : WSs X ex sts ρ' W) : WSs X ex sts ρ W := ⟨fun E σ G H S => h E σ G H (S.le l)⟩
theorem ws_le1 {ρ' : List O} (l : Le ρ ρ') (h : WS X ex st ρ' W) : WS X ex st ρ W := ⟨fun E σ G H S => h E σ G H (S.le l)⟩

/-! ### small statements -/
theorem ws_pass (h : W.nx ρ) : WS X ex (.Pass pos) ρ W := ⟨fun E σ G H S => of_ps ps_pass ⟨ρ, G, S, Ex.refl _, h⟩⟩
theorem ws_break (h : W.bk ρ) : WS X ex (.Break pos) ρ W := ⟨fun E σ G H S => of_ps ps_break ⟨ρ, G, S, Ex.refl _, h⟩⟩
theorem ws_continue (h : W.ct ρ) : WS X ex (.Continue pos) ρ W := ⟨fun E σ G H S => of_ps ps_continue ⟨ρ, G, S, Ex.refl _, h⟩⟩
theorem ws_ret {P : O → Prop} (h : EO X ex e ρ P) (k : ∀ o, P o → W.rt o) : WS X ex (.Return (some e) pos) ρ W := ⟨fun E σ G H S =>
  of_ps (ps_ret sem_pe) (tSem_mono (h E σ G H S) fun v H1 ⟨o, G1, g, q, p⟩ => by
    have S1 := S.grow g
    exact ⟨o, G1, ⟨S1.g0, S1.gh, S1.h0, S1.fr, q.h0 S.h0, S1.tb⟩, k o p⟩)⟩
theorem ws_retE (h : EE X ex e ρ d) (k : W.rt (.va d)) : WS X ex (.Return (some e) pos) ρ W := ws_ret h.eo fun o p => p ▸ k
theorem ws_retN (k : W.rt (.va .non)) : WS X ex (.Return none pos) ρ W := ⟨fun E σ G H S =>
  of_ps ps_retN ⟨.va .non, G, ⟨S.g0, S.gh, S.h0, S.fr, .non, S.tb⟩, k⟩⟩
/-- return xs, a list of its own -/
theorem ws_retM (i : Nat) (hr : ρ[i]? = some (.ml ds)) (k : W.rt (.ml ds)) (hN : X.N[i]? = some x := by rfl) (hv : Vis X.env.scope x := by first | exact Or.inl rfl | exact Or.inr (Or.inl rfl) | exact Or.inr (Or.inr rfl)) (hd : (x == ("__debug__" : Str)) = false := by decide)
    (hcd : (x == ("__classdict__" : Str)) = false := by decide) : WS X ex (.Return (some (.Name x pos)) pos') ρ W := ⟨fun E σ G H S => by
  obtain ⟨a, xs, h1, h2, h3, h4, r⟩ := S.getL hr
  exact of_ps (ps_ret (pe_var hN hv hd hcd)) ⟨.ref a, h1, .ml ds, G, ⟨S.g0, S.gh, S.h0, S.fr, ⟨a, xs, rfl, h2, h3, h4, r⟩, S.tb⟩, k⟩⟩
/-- an expression whose value is dropped -/
theorem ws_expr {P : O → Prop} (h : EO X ex e ρ P) (k : W.nx ρ) (hs : swapsWith e none pos.line X.env = pure false := by rfl) : WS X ex (.Expr e pos) ρ W := ⟨fun E σ G H S =>
  of_ps (ps_expr sem_pe hs) (tSem_mono (h E σ G H S) fun v H1 ⟨o, G1, g, q, p⟩ => ⟨ρ, G1, S.grow g, g.g, k⟩)⟩

/-! ### if -/
theorem ws_if {c : Expr} {A B : List Stmt} {t : Bool} (hc : ET X ex c ρ t) (h1 : t = true → WSs X ex A ρ W) (h2 : t = false → WSs X ex B ρ W) : WS X ex (.If c A B pos) ρ W := ⟨fun E σ G H S =>
  of_ps (ps_if sem_pt sem_pss sem_pss) (tSemT_mono (hc E σ G H S) fun b H1 ⟨e, G1, g⟩ => by
    subst e
    cases b with
    | true => rw [if_pos rfl]; exact (h1 rfl).go (S.grow g) g.g
    | false => rw [if_neg Bool.false_ne_true]; exact (h2 rfl).go (S.grow g) g.g)⟩

/-! ### x = e -/
theorem set_own {K : PySem.W.Frag} {E : Hp × Hp} {ρ : List O} {σ : L2.St} {G H G' H' : Hp} {o : O} {v : V} (S : SOk K E ρ σ G H) (g : Grow G H G' H') (q : OOk K H G' H' o v) (i : Nat) : SOk K E (ρ.set i o) (σ.set i (some v)) G' H' :=
  (S.grow g).set i (q.h0 S.h0) fun ho j b w => by
    obtain ⟨⟨u, hu⟩, _, _⟩ := S.own_at w
    intro z
    subst z
    have no : H b = none := by
      cases o with
      | ml ds => obtain ⟨a, xs, e, h1, h2, h3, r⟩ := q; cases e; exact h3
      | md ks vs => obtain ⟨a, xs, us, e, h1, h2, h3, r⟩ := q; cases e; exact h3
      | mi ns vs => obtain ⟨a, us, e, h1, h2, h3, r⟩ := q; cases e; exact h3
      | mo c ns ds => obtain ⟨a, C, dx, us, e, c, h1, h2, h3, r⟩ := q; cases e; exact h3
      | un => exact absurd ho Bool.false_ne_true
      | va d => exact absurd ho Bool.false_ne_true
      | rf a => exact absurd ho Bool.false_ne_true
    rw [no] at hu; cases hu
theorem ws_set (i : Nat) {P : O → Prop} (h : EO X ex e ρ P) (k : ∀ o, P o → W.nx (ρ.set i o)) (hN : X.N.Nodup) (hi : X.N[i]? = some x := by rfl) (hx : Loc X.env.scope x := by first | exact Or.inl rfl | exact Or.inr rfl) (hs : swapsWith e (some (.Name x pos')) pos.line X.env = pure false := by rfl) (hf : X.fn x = true ∨ X.env.scope.names.lookup x = some .local := by first | exact .inl rfl | exact .inr rfl) :
    WS X ex (.Assign [.Name x pos'] e pos) ρ W := ⟨fun E σ G H S =>
  of_ps (ps_set hN hi hx sem_pe hs hf) (tSem_mono (h E σ G H S) fun v H1 ⟨o, G1, g, q, p⟩ => ⟨_, G1, set_own S.toSOk g q i, g.g, k o p⟩)⟩
theorem ws_setE (i : Nat) (h : EE X ex e ρ d) (k : W.nx (ρ.set i (.va d))) (hN : X.N.Nodup) (hi : X.N[i]? = some x := by rfl) (hx : Loc X.env.scope x := by first | exact Or.inl rfl | exact Or.inr rfl) (hs : swapsWith e (some (.Name x pos')) pos.line X.env = pure false := by rfl) (hf : X.fn x = true ∨ X.env.scope.names.lookup x = some .local := by first | exact .inl rfl | exact .inr rfl) :
    WS X ex (.Assign [.Name x pos'] e pos) ρ W := ws_set i h.eo (fun o p => p ▸ k) hN hi hx hs hf
theorem ws_setM (i : Nat) (h : EO X ex e ρ (fun o => o = .ml ds)) (k : W.nx (ρ.set i (.ml ds))) (hN : X.N.Nodup) (hi : X.N[i]? = some x := by rfl) (hx : Loc X.env.scope x := by first | exact Or.inl rfl | exact Or.inr rfl) (hs : swapsWith e (some (.Name x pos')) pos.line X.env = pure false := by rfl) (hf : X.fn x = true ∨ X.env.scope.names.lookup x = some .local := by first | exact .inl rfl | exact .inr rfl) :
    WS X ex (.Assign [.Name x pos'] e pos) ρ W := ws_set i h (fun o p => p ▸ k) hN hi hx hs hf
/-- a, b = e1, e2 with local names -/
theorem ws_par (i j : Nat) {x y : Str} {a b : Expr} {d1 d2 : D} {px py pt : Pos} {kt k2 pt2} (ha : EA X ex [a, b] ρ [d1, d2]) (k : W.nx ((ρ.set i (.va d1)).set j (.va d2))) (hN : X.N.Nodup) (hc : X.calm = true := by rfl) (hi : X.N[i]? = some x := by rfl) (hj : X.N[j]? = some y := by rfl) (hij : i ≠ j := by decide)
    (hx : X.env.scope.names.lookup x = some .local := by rfl) (hy : X.env.scope.names.lookup y = some .local := by rfl) (hw : swappedStores [.Tuple [.Name x px, .Name y py] kt pt] (.Tuple [a, b] k2 pt2) X.env = pure (some [x, y]) := by rfl)
    (hs : swapsWithSole [.Tuple [.Name x px, .Name y py] kt pt] (.Tuple [a, b] k2 pt2) pos.line X.env = pure false := by rfl) :
    WS X ex (.Assign [.Tuple [.Name x px, .Name y py] kt pt] (.Tuple [a, b] k2 pt2) pos) ρ W := ⟨fun E σ G H S =>
  of_ps (ps_par hc hN hi hj hij hx hy sem_pa hw hs) (tSemA_mono (ha E σ G H S) fun vs H1 ⟨G1, g, r⟩ => by
    obtain ⟨v, w, rfl, r1, r2⟩ := r.of2
    refine ⟨v, w, rfl, _, G1, ?_, g.g, k⟩
    exact ((S.grow g).set i (o := .va d1) r1 fun h => absurd h Bool.false_ne_true).set j (o := .va d2) r2 fun h => absurd h Bool.false_ne_true)⟩
/-- x += e of ints -/
theorem ws_iadd (i : Nat) {n m : Int} (hr : ρ[i]? = some (.va (.int n))) (h : EE X ex e ρ (.int m)) (k : W.nx (ρ.set i (.va (.int (n + m))))) (hN : X.N.Nodup) (hi : X.N[i]? = some x := by rfl) (hx : Loc X.env.scope x := by first | exact Or.inl rfl | exact Or.inr rfl) (hf : X.fn x = true ∨ X.env.scope.names.lookup x = some .local := by first | exact .inl rfl | exact .inr rfl) :
    WS X ex (.AugAssign (.Name x pos') .Add e pos) ρ W := ⟨fun E σ G H S => by
  obtain ⟨v, h1, r⟩ := S.get hr
  cases r
  exact of_ps (ps_aug hN hi hx sem_pe ip_add hf) ⟨_, h1, tSem_mono (h E σ G H S) fun w H1 ⟨G1, g, r1⟩ => by
    cases r1
    exact ⟨n, m, rfl, rfl, _, G1, (S.grow g).set i (o := .va (.int (n + m))) (.int _) fun h => absurd h Bool.false_ne_true, g.g, k⟩⟩⟩

/-! ### lists of one's own -/
omit [TbT] in
/-- what else is owned stays where the object at a changes -/
theorem OOk.stay {K : PySem.W.Frag} {H0 G G' H H' : Hp} {o : O} {v : V} {a : Addr} (q : OOk K H0 G H o v) (e : Ex G G') (hg : ∀ b, b ≠ a → G b = none → G' b = none) (hh : ∀ b, b ≠ a → H' b = H b) (n : o.own = true → v ≠ .ref a) : OOk K H0 G' H' o v := by
  cases o with
  | un => trivial
  | va d => exact Rep.mono e q
  | rf a => exact q
  | ml fs =>
    obtain ⟨b, zs, rfl, k1, k2, k3, r⟩ := q
    have nb : b ≠ a := fun z => n rfl (congrArg V.ref z)
    exact ⟨b, zs, rfl, by rw [hh b nb]; exact k1, hg b nb k2, k3, r.mono e⟩
  | md ks vs =>
    obtain ⟨b, xs, us, rfl, k1, k2, k3, k, nd, r, w, t, q⟩ := q
    have nb : b ≠ a := fun z => n rfl (congrArg V.ref z)
    exact ⟨b, xs, us, rfl, by rw [hh b nb]; exact k1, hg b nb k2, k3, k, nd, r.mono e, w, t.mono e, q⟩
  | mi ns vs =>
    obtain ⟨b, us, rfl, k1, k2, k3, nd, l, r⟩ := q
    have nb : b ≠ a := fun z => n rfl (congrArg V.ref z)
    exact ⟨b, us, rfl, by rw [hh b nb]; exact k1, hg b nb k2, k3, nd, l, r.mono e⟩
  | mo c ns ds =>
    obtain ⟨b, C, dx, us, rfl, hc, k1, k2, k3, l, r⟩ := q
    have nb : b ≠ a := fun z => n rfl (congrArg V.ref z)
    exact ⟨b, C, dx, us, rfl, hc, by rw [hh b nb]; exact k1, hg b nb k2, k3, l, r.mono e⟩
/-- the object that slot i owns changes -/
theorem SOk.ownTo {K : PySem.W.Frag} {E : Hp × Hp} {σ : L2.St} {G H : Hp} {a : Addr} {o o' : O} {u' : HO} (S : SOk K E ρ σ G H) (hr : ρ[i]? = some o) (ho : o.own = true) (h1 : σ[i]? = some (some (.ref a))) (ht : Tb (upd H a u')) (hq : OOk K E.2 G (upd H a u') o' (.ref a)) :
    SOk K E (ρ.set i o') σ G (upd H a u') := by
  have wi : Own ρ σ i a := ⟨⟨_, hr, ho⟩, h1⟩
  obtain ⟨_, h3, h4⟩ := S.own_at wi
  refine ⟨S.g0, S.gh.mut h3, S.h0.mut h4, S.fr, by rw [List.length_set]; exact S.len, fun j u e => ?_, fun j k b hj hk => ?_, ht⟩
  · rcases set_at e with ⟨hj, hu, l⟩ | ⟨ne, e'⟩
    · subst hj hu
      exact .inr ⟨.ref a, h1, hq⟩
    · rcases S.at' j u e' with h | ⟨v, s, q⟩
      · exact .inl h
      · refine .inr ⟨v, s, q.stay (a := a) (Ex.refl _) (fun _ _ h => h) (fun b nb => upd_ne nb) fun ow z => ?_⟩
        subst z
        exact ne (S.apart i j a wi ⟨⟨_, e', ow⟩, s⟩)
  · have back : ∀ j, Own (ρ.set i o') σ j b → Own ρ σ j b := fun j ⟨⟨o2, e, p⟩, s⟩ => by
      rcases set_at e with ⟨hj, _, l⟩ | ⟨ne, e'⟩
      · subst hj; exact ⟨⟨_, hr, ho⟩, s⟩
      · exact ⟨⟨o2, e', p⟩, s⟩
    exact S.apart j k b (back j hj) (back k hk)
/-- the list in slot i changes -/
theorem SOk.lstTo {K : PySem.W.Frag} {E : Hp × Hp} {σ : L2.St} {G H : Hp} {a : Addr} {xs ys : List V} {es : List D} (S : SOk K E ρ σ G H) (hr : ρ[i]? = some (.ml ds)) (h1 : σ[i]? = some (some (.ref a))) (h2 : H a = some (.lst xs)) (h3 : G a = none) (h4 : E.2 a = none) (r : RepL K G ys es) :
    SOk K E (ρ.set i (.ml es)) σ G (upd H a (.lst ys)) := S.ownTo hr rfl h1 (tb_lst S.tb h2) ⟨a, ys, rfl, upd_same, h3, h4, r⟩
/-- xs.append(e) -/
theorem ws_append (i : Nat) {cpos apos npos : Pos} (hr : ρ[i]? = some (.ml ds)) (h : EE X ex e ρ d) (hl : ds.length < sizeLine) (k : W.nx (ρ.set i (.ml (ds ++ [d])))) (hN : X.N[i]? = some x := by rfl) (hv : Vis X.env.scope x := by first | exact Or.inl rfl | exact Or.inr (Or.inl rfl) | exact Or.inr (Or.inr rfl)) (hd : (x == ("__debug__" : Str)) = false := by decide)
    (hcd : (x == ("__classdict__" : Str)) = false := by decide) (hbase : attributeBase (.Name x npos) "append" X.env (eval (.Name x npos) X.env) = eval (.Name x npos) X.env := by rfl)
    (hfew : ((backTo cpos (starEach [e] X.env)).all (fun x => !x.1) && (backToKw cpos (keywordEach [] X.env)).all (fun x => x.1.isSome)
      && decide (([e] : List Expr).length + ([] : List Keyword).length + (if ([] : List Keyword).isEmpty then 0 else 1) < 30)) = true := by rfl)
    (hline : (apos.endLine == cpos.line) = true := by rfl) (hst : starEach [e] X.env = (false, eval e X.env) :: starEach [] X.env := by rfl) (hplain : (backTo cpos (starEach [] X.env)).any (·.1) = false := by rfl)
    (hs : swapsWith (.Call (.Attribute (.Name x npos) "append" apos) [e] [] cpos) none pos.line X.env = pure false := by rfl) :
    WS X ex (.Expr (.Call (.Attribute (.Name x npos) "append" apos) [e] [] cpos) pos) ρ W := ⟨fun E σ G H S => by
  obtain ⟨a, xs, h1, h2, h3, h4, r⟩ := S.getL hr
  refine of_ps (ps_expr (pe_bm PySem.F.plainAttrs_list PySem.F.slot_list_append PySem.F.type_list_append mt_append (pe_var hN hv hd hcd) (pa_cons sem_pe pa_nil hst) hbase hfew hline hst hplain) hs) ?_
  refine ⟨.ref a, h1, .inl ⟨rfl, xs, .inl (.inl h2)⟩, tSem_mono (h E σ G H S) fun v H1 ⟨G1, g, r1⟩ => ?_⟩
  have S1 := S.grow g
  obtain ⟨a', xs', h1', h2', h3', h4', r'⟩ := S1.getL hr
  rw [h1] at h1'; cases h1'
  refine ⟨a, xs', v, rfl, rfl, h2', by rw [r'.length]; exact hl, _, G1, S1.lstTo hr h1 h2' h3' h4' (r'.append (.one r1)), g.g, k⟩⟩
/-- x = xs.pop() -/
theorem ws_pop (i j : Nat) {y : Str} {cpos apos npos ypos : Pos} (hr : ρ[i]? = some (.ml ds)) (hne : ds[ds.length - 1]? = some d) (k : W.nx ((ρ.set i (.ml ds.dropLast)).set j (.va d))) (hNd : X.N.Nodup) (hN : X.N[i]? = some x := by rfl) (hj : X.N[j]? = some y := by rfl) (hv : Vis X.env.scope x := by first | exact Or.inl rfl | exact Or.inr (Or.inl rfl) | exact Or.inr (Or.inr rfl)) (hd : (x == ("__debug__" : Str)) = false := by decide)
    (hcd : (x == ("__classdict__" : Str)) = false := by decide) (hbase : attributeBase (.Name x npos) "pop" X.env (eval (.Name x npos) X.env) = eval (.Name x npos) X.env := by rfl) (hline : (apos.endLine == cpos.line) = true := by rfl) (hx : Loc X.env.scope y := by first | exact Or.inl rfl | exact Or.inr rfl)
    (hs : swapsWith (.Call (.Attribute (.Name x npos) "pop" apos) [] [] cpos) (some (.Name y ypos)) pos.line X.env = pure false := by rfl) (hf : X.fn y = true ∨ X.env.scope.names.lookup y = some .local := by first | exact .inl rfl | exact .inr rfl) :
    WS X ex (.Assign [.Name y ypos] (.Call (.Attribute (.Name x npos) "pop" apos) [] [] cpos) pos) ρ W := ⟨fun E σ G H S => by
  obtain ⟨a, xs, h1, h2, h3, h4, r⟩ := S.getL hr
  have hne' : xs[xs.length - 1]? = xs[ds.length - 1]? := by rw [r.length]
  obtain ⟨v, hv1, rv⟩ := r.get hne
  refine of_ps (ps_set hNd hj hx (pe_bm0 PySem.F.plainAttrs_list PySem.F.slot_list_pop PySem.F.type_list_pop mt_pop (pe_var hN hv hd hcd) hbase hline) hs hf) ?_
  refine ⟨.ref a, h1, .inl ⟨rfl, xs, .inl (.inl h2)⟩, a, xs, v, rfl, rfl, h2, hne'.trans hv1, ?_⟩
  refine ⟨_, G, ((S.lstTo hr h1 h2 h3 h4 r.dropLast).set j (o := .va d) rv fun h => absurd h Bool.false_ne_true), Ex.refl _, k⟩⟩
/-- xs.clear() -/
theorem ws_clear (i : Nat) {cpos apos npos : Pos} (hr : ρ[i]? = some (.ml ds)) (k : W.nx (ρ.set i (.ml []))) (hN : X.N[i]? = some x := by rfl) (hv : Vis X.env.scope x := by first | exact Or.inl rfl | exact Or.inr (Or.inl rfl) | exact Or.inr (Or.inr rfl)) (hd : (x == ("__debug__" : Str)) = false := by decide)
    (hcd : (x == ("__classdict__" : Str)) = false := by decide) (hbase : attributeBase (.Name x npos) "clear" X.env (eval (.Name x npos) X.env) = eval (.Name x npos) X.env := by rfl) (hline : (apos.endLine == cpos.line) = true := by rfl)
    (hs : swapsWith (.Call (.Attribute (.Name x npos) "clear" apos) [] [] cpos) none pos.line X.env = pure false := by rfl) :
    WS X ex (.Expr (.Call (.Attribute (.Name x npos) "clear" apos) [] [] cpos) pos) ρ W := ⟨fun E σ G H S => by
  obtain ⟨a, xs, h1, h2, h3, h4, r⟩ := S.getL hr
  refine of_ps (ps_expr (pe_bm0 PySem.F.plainAttrs_list PySem.F.slot_list_clear PySem.F.type_list_clear mt_clear (pe_var hN hv hd hcd) hbase hline) hs) ?_
  exact ⟨.ref a, h1, .inl ⟨rfl, xs, .inl (.inl h2)⟩, a, xs, rfl, rfl, h2, _, G, S.lstTo hr h1 h2 h3 h4 .nil, Ex.refl _, k⟩⟩

/-! ### an owned object as data -/
/-- what slot i owns does not change any more -/
theorem SOk.toData {K : PySem.W.Frag} {E : Hp × Hp} {σ : L2.St} {G H H' : Hp} {a : Addr} {o : O} {d : D} {u : HO} (S : SOk K E ρ σ G H) (hr : ρ[i]? = some o) (ho : o.own = true) (h1 : σ[i]? = some (some (.ref a))) (hh : ∀ b, b ≠ a → H' b = H b) (ha : H' a = some u) (nt : ∀ ps, u ≠ .tbl ps) (ht : Tb H')
    (rd : Rep K (upd G a u) (.ref a) d) : SOk K E (ρ.set i (.va d)) σ (upd G a u) H' := by
  have wi : Own ρ σ i a := ⟨⟨_, hr, ho⟩, h1⟩
  obtain ⟨_, h3, h4⟩ := S.own_at wi
  have ex : Ex (upd G a u) H' := by
    refine ⟨fun b w h n => ?_, fun b ps h => ?_⟩
    · by_cases z : b = a
      · subst z; rw [upd_same] at h; cases h; exact ha
      · rw [upd_ne z] at h; rw [hh b z]; exact S.gh.keep b w h n
    · by_cases z : b = a
      · subst z; rw [upd_same] at h; exact absurd (Option.some.inj h) (nt ps)
      · rw [upd_ne z] at h; rw [hh b z]; exact S.gh.tb b ps h
  have hE : Ex E.2 H' := by
    refine ⟨fun b w h n => ?_, fun b ps h => ?_⟩
    · rw [hh b (ne_of_none h h4)]; exact S.h0.keep b w h n
    · rw [hh b (ne_of_none h h4)]; exact S.h0.tb b ps h
  refine ⟨S.g0.trans (Ex.new h3), ex, hE, fun b h q => ?_, by rw [List.length_set]; exact S.len, fun j w e => ?_, fun j k b hj hk => ?_, ht⟩
  · by_cases z : b = a
    · subst z; exact h4
    · rw [upd_ne z] at q; exact S.fr b h q
  · rcases set_at e with ⟨hj, hu, l⟩ | ⟨ne, e'⟩
    · subst hj hu
      exact .inr ⟨.ref a, h1, rd⟩
    · rcases S.at' j w e' with h | ⟨v, s, q⟩
      · exact .inl h
      · refine .inr ⟨v, s, q.stay (a := a) (Ex.new h3) (fun b nb h => by rw [upd_ne nb]; exact h) hh fun ow z => ?_⟩
        subst z
        exact ne (S.apart i j a wi ⟨⟨_, e', ow⟩, s⟩)
  · have back : ∀ j, Own (ρ.set i (.va d)) σ j b → Own ρ σ j b := fun j ⟨⟨o2, e, p⟩, s⟩ => by
      rcases set_at e with ⟨hj, ho, l⟩ | ⟨ne, e'⟩
      · subst hj ho; exact absurd p Bool.false_ne_true
      · exact ⟨⟨o2, e', p⟩, s⟩
    exact S.apart j k b (back j hj) (back k hk)
theorem SOk.frozen {K : PySem.W.Frag} {E : Hp × Hp} {σ : L2.St} {G H : Hp} (S : SOk K E ρ σ G H) (hr : ρ[i]? = some (.ml ds)) : ∃ a xs, σ[i]? = some (some (.ref a)) ∧ H a = some (.lst xs) ∧ G a = none ∧ E.2 a = none ∧ RepL K G xs ds ∧ SOk K E (ρ.set i (.va (.lst ds))) σ (upd G a (.lst xs)) H := by
  obtain ⟨a, xs, h1, h2, h3, h4, r⟩ := S.getL hr
  exact ⟨a, xs, h1, h2, h3, h4, r, S.toData hr rfl h1 (fun _ _ => rfl) h2 lst_ne.1 S.tb (.lst upd_same (r.mono (Ex.new h3)))⟩
/-- from here on the list does not change any more -/
theorem ws_freeze (i : Nat) {sts : List Stmt} (hr : ρ[i]? = some (.ml ds)) (h : WSs X ex sts (ρ.set i (.va (.lst ds))) W) : WSs X ex sts ρ W := ⟨fun E σ G H S => by
  obtain ⟨a, xs, h1, h2, h3, h4, r, S'⟩ := S.frozen hr
  exact h.go (S.at S' (Ex.new h3)) (Ex.new h3)⟩
/-- the borrowed list is given back -/
theorem unfreeze {K : PySem.W.Frag} {E : Hp × Hp} {σ : L2.St} {G H G' H' : Hp} {a : Addr} {xs : List V} (S : SOk K E ρ σ G H) (h2 : H a = some (.lst xs)) (h3 : G a = none) (g : Grow (upd G a (.lst xs)) H G' H') : Grow G H (del G' a) H' := by
  refine ⟨⟨fun b u e n => ?_, fun b ps e => ?_⟩, g.h, del_ex.trans g.gh, fun b h q => ?_, g.tb⟩
  · have nb : b ≠ a := ne_of_none e h3
    rw [del_ne nb]
    exact g.g.keep b u (by rw [upd_ne nb]; exact e) n
  · have nb : b ≠ a := ne_of_none e h3
    rw [del_ne nb]
    exact g.g.tb b ps (by rw [upd_ne nb]; exact e)
  · by_cases z : b = a
    · subst z; rw [del_same] at q; exact absurd rfl q
    · rw [del_ne z] at q; exact g.fr b (by rw [upd_ne z]; exact h) q
theorem ee_bor (i : Nat) (hr : ρ[i]? = some (.ml ds)) (h : EE X ex e (ρ.set i (.va (.lst ds))) d) (hn : d.noL = true) : EE X ex e ρ d := ⟨fun E σ G H S => by
  obtain ⟨a, xs, h1, h2, h3, h4, r, S'⟩ := S.frozen hr
  refine tSem_mono (h E σ _ H (S.at S' (Ex.new h3))) fun v H' ⟨G', g, rv⟩ => ⟨del G' a, unfreeze S.toSOk h2 h3 g, ?_⟩
  exact rv.del (g.g.app a _ upd_same) hn⟩
theorem et_bor (i : Nat) {t : Bool} (hr : ρ[i]? = some (.ml ds)) (h : ET X ex e (ρ.set i (.va (.lst ds))) t) : ET X ex e ρ t := ⟨fun E σ G H S => by
  obtain ⟨a, xs, h1, h2, h3, h4, r, S'⟩ := S.frozen hr
  exact tSemT_mono (h E σ _ H (S.at S' (Ex.new h3))) fun v H' ⟨q, G', g⟩ => ⟨q, del G' a, unfreeze S.toSOk h2 h3 g⟩⟩
/-- .. where a new list of plain items comes back -/
theorem eo_bor (i : Nat) {es : List D} (hr : ρ[i]? = some (.ml ds)) (h : EO X ex e (ρ.set i (.va (.lst ds))) (fun o => o = .ml es)) (hn : D.noLs es = true) : EO X ex e ρ (fun o => o = .ml es) := ⟨fun E σ G H S => by
  obtain ⟨a, xs, h1, h2, h3, h4, r, S'⟩ := S.frozen hr
  refine tSem_mono (h E σ _ H (S.at S' (Ex.new h3))) fun v H' ⟨o, G', g, q, p⟩ => ?_
  subst p
  obtain ⟨b, ys, e1, k1, k2, k3, r'⟩ := q
  refine ⟨.ml es, del G' a, unfreeze S.toSOk h2 h3 g, ⟨b, ys, e1, k1, ?_, k3, r'.del (g.g.app a _ upd_same) hn⟩, rfl⟩
  by_cases z : b = a
  · subst z; exact del_same
  · rw [del_ne z]; exact k2⟩
theorem SOk.forget {K : PySem.W.Frag} {E : Hp × Hp} {σ : L2.St} {G H : Hp} (S : SOk K E ρ σ G H) (i : Nat) : SOk K E (ρ.set i .un) σ G H := by
  refine ⟨S.g0, S.gh, S.h0, S.fr, by rw [List.length_set]; exact S.len, fun j u e => ?_, fun j k b hj hk => ?_, S.tb⟩
  · rcases set_at e with ⟨hj, hu, l⟩ | ⟨ne, e'⟩
    · exact .inl hu
    · exact S.at' j u e'
  · have back : ∀ j, Own (ρ.set i .un) σ j b → Own ρ σ j b := fun j ⟨⟨o, e, p⟩, s⟩ => by
      rcases set_at e with ⟨hj, ho, l⟩ | ⟨ne, e'⟩
      · subst hj ho; exact absurd p Bool.false_ne_true
      · exact ⟨⟨o, e', p⟩, s⟩
    exact S.apart j k b (back j hj) (back k hk)
/-- y = xs, a list of one's own that changes its name -/
theorem ws_move (i j : Nat) {y : Str} {npos ypos : Pos} (hr : ρ[i]? = some (.ml ds)) (hij : i ≠ j) (k : W.nx ((ρ.set i .un).set j (.ml ds))) (hNd : X.N.Nodup) (hN : X.N[i]? = some x := by rfl) (hj : X.N[j]? = some y := by rfl) (hv : Vis X.env.scope x := by first | exact Or.inl rfl | exact Or.inr (Or.inl rfl) | exact Or.inr (Or.inr rfl)) (hd : (x == ("__debug__" : Str)) = false := by decide)
    (hcd : (x == ("__classdict__" : Str)) = false := by decide) (hx : Loc X.env.scope y := by first | exact Or.inl rfl | exact Or.inr rfl)
    (hs : swapsWith (.Name x npos) (some (.Name y ypos)) pos.line X.env = pure false := by rfl) (hf : X.fn y = true ∨ X.env.scope.names.lookup y = some .local := by first | exact .inl rfl | exact .inr rfl) :
    WS X ex (.Assign [.Name y ypos] (.Name x npos) pos) ρ W := ⟨fun E σ G H S => by
  obtain ⟨a, xs, h1, h2, h3, h4, r⟩ := S.getL hr
  refine of_ps (ps_set hNd hj hx (pe_var hN hv hd hcd) hs hf) ⟨.ref a, h1, _, G, ?_, Ex.refl _, k⟩
  have S1 : SOk X.K E (ρ.set i .un) σ G H := S.forget i
  refine S1.set j (o := .ml ds) ⟨a, xs, rfl, h2, h3, h4, r⟩ fun _ m b w z => ?_
  cases z
  obtain ⟨⟨o, e, p⟩, s⟩ := w
  rcases set_at e with ⟨hj, ho, l⟩ | ⟨ne, e'⟩
  · subst hj ho; exact absurd p Bool.false_ne_true
  · exact ne (S.apart i m a ⟨⟨_, hr, rfl⟩, h1⟩ ⟨⟨o, e', p⟩, s⟩)⟩
end
end TG
/-! Loops, comprehensions, defs over plain data. -/
namespace TG
open PySem PySem.Spec PyProof.Rows L2
variable [TbT]

section
variable {X : Cx} {ex : Exs} {ρ : List O} {e : Expr} {body : List Stmt} {W : Eds} {d : D} {ds : List D} {pos pos' : Pos} {i : Nat} {x : Str}
/-- slots may be forgotten ahead of R -/
def Up (R : List O → Prop) (ρ : List O) : Prop := ∃ ρ', Le ρ ρ' ∧ R ρ'
omit [TbT] in
theorem Up.of {R : List O → Prop} (h : R ρ) : Up R ρ := ⟨ρ, Le.refl ρ, h⟩
theorem sok_up {K : PySem.W.Frag} {E : Hp × Hp} {σ : L2.St} {G H : Hp} {R : List O → Prop} (S : SOk K E ρ σ G H) (h : Up R ρ) : ∃ ρ', SOk K E ρ' σ G H ∧ R ρ' := let ⟨ρ', l, r⟩ := h; ⟨ρ', S.le l, r⟩

/-! ### while -/
theorem ws_while {c : Expr} (R : Nat → List O → Prop) (m0 : Nat) (h0 : Up (R m0) ρ) (hp : PassesOwn (model X.prog X.w) X.A X.env X.xe)
    (hs : ∀ m ρ, R m ρ → ∃ t, ET X ex c ρ t ∧ (t = true → WSs X ex body ρ { nx := fun ρ' => ∃ m', m' < m ∧ Up (R m') ρ', ct := fun ρ' => ∃ m', m' < m ∧ Up (R m') ρ', bk := W.nx, rt := W.rt }) ∧ (t = false → W.nx ρ)) : WS X ex (.While c body [] pos) ρ W := ⟨fun E σ G H S =>
  of_ps (ps_while hp sem_pt sem_pss) ⟨fun m σ' H' => ∃ ρ' G', SOk X.K E ρ' σ' G' H' ∧ Ex G G' ∧ R m ρ', ⟨m0, let ⟨ρ', S', r⟩ := sok_up S.toSOk h0; ⟨ρ', G, S', Ex.refl _, r⟩⟩, fun m σ' H' ⟨ρ1, G1, S1, x1, r1⟩ => by
    obtain ⟨t, ht, h1, h2⟩ := hs m ρ1 r1
    refine tSemT_mono (ht E σ' G1 H' (S.at S1 x1)) fun b H2 ⟨eb, G2, g2⟩ => ?_
    subst eb
    cases b with
    | true =>
      rw [if_pos rfl]
      refine ⟨fun σ3 H3 => ∃ ρ3 G3, SOk X.K E ρ3 σ3 G3 H3 ∧ Ex G G3 ∧ ∃ m', m' < m ∧ Up (R m') ρ3, fun σ3 H3 ⟨ρ3, G3, S3, x3, m', lt, u⟩ => ?_, (h1 rfl).go (S.at (S1.grow g2) (x1.trans g2.g)) (x1.trans g2.g)⟩
      obtain ⟨ρ4, S4, r4⟩ := sok_up S3 u
      exact ⟨m', lt, ρ4, G3, S4, x3, r4⟩
    | false =>
      rw [if_neg Bool.false_ne_true]
      exact ⟨ρ1, G2, S1.grow g2, x1.trans g2.g, h2 rfl⟩⟩⟩

/-! ### for -/
/-- a target's own meaning -/
def tSemG (X : Cx) (tg : Expr) : L2.TG := fun v σ H Q => ∀ (pins : List (Addr × Obj)) (s : Shared) (u : Value), Inv X pins σ H s → RelV v u → wpAny (model X.prog X.w) X.A (assign tg X.env u) (fun _ s' => ∃ σ' H', Inv X pins σ' H' s' ∧ Q σ' H') X.xe s
def tSemGs (X : Cx) (ts : List Expr) : TGs := fun vs σ H Q => ∀ (pins : List (Addr × Obj)) (s : Shared) (us : List Value), Inv X pins σ H s → Vals vs us → wpAny (model X.prog X.w) X.A (assignInOrder ((assignEach ts X.env).map (·.2)) us) (fun _ s' => ∃ σ' H', Inv X pins σ' H' s' ∧ Q σ' H') X.xe s
omit [TbT] in
theorem sem_pg {tg : Expr} : PG X tg (tSemG X tg) := ⟨fun pins s _ _ _ u _ I r h => h pins s u I r⟩
omit [TbT] in
theorem sem_pgs {ts : List Expr} : PGs X ts (tSemGs X ts) := ⟨fun pins s _ _ _ us _ I r h => h pins s us I r⟩
omit [TbT] in
theorem of_pg {tg : Expr} {t : L2.TG} (h : PG X tg t) {v : V} {σ : L2.St} {H : Hp} {Q : L2.St → Hp → Prop} (q : t v σ H Q) : tSemG X tg v σ H Q := fun pins s u I r => h.run pins s σ H v u Q I r q
omit [TbT] in
theorem of_pgs {ts : List Expr} {t : TGs} (h : PGs X ts t) {vs : List V} {σ : L2.St} {H : Hp} {Q : L2.St → Hp → Prop} (q : t vs σ H Q) : tSemGs X ts vs σ H Q := fun pins s us I r => h.run pins s σ H vs us Q I r q
omit [TbT] in
theorem tSemG_mono {tg : Expr} {v : V} {σ : L2.St} {H : Hp} {Q Q' : L2.St → Hp → Prop} (h : tSemG X tg v σ H Q) (k : ∀ σ' H', Q σ' H' → Q' σ' H') : tSemG X tg v σ H Q' := fun pins s u I r => thn (h pins s u I r) fun _ _ ⟨σ', H', I', q⟩ => ⟨σ', H', I', k _ _ q⟩
omit [TbT] in
theorem tSemGs_mono {ts : List Expr} {vs : List V} {σ : L2.St} {H : Hp} {Q Q' : L2.St → Hp → Prop} (h : tSemGs X ts vs σ H Q) (k : ∀ σ' H', Q σ' H' → Q' σ' H') : tSemGs X ts vs σ H Q' := fun pins s us I r => thn (h pins s us I r) fun _ _ ⟨σ', H', I', q⟩ => ⟨σ', H', I', k _ _ q⟩
/-- the target takes d: the slots ρ become ρ' -/
structure ATg (X : Cx) (tg : Expr) (d : D) (ρ ρ' : List O) : Prop where
  run : ∀ (E : Hp × Hp) (σ : L2.St) (G H : Hp) (v : V), SOk X.K E ρ σ G H → Rep X.K G v d → tSemG X tg v σ H fun σ' H' => H' = H ∧ SOk X.K E ρ' σ' G H
instance {X : Cx} {tg : Expr} {d : D} {ρ ρ' : List O} : CoeFun (ATg X tg d ρ ρ') (fun _ => ∀ (E : Hp × Hp) (σ : L2.St) (G H : Hp) (v : V), SOk X.K E ρ σ G H → Rep X.K G v d → tSemG X tg v σ H fun σ' H' => H' = H ∧ SOk X.K E ρ' σ' G H) := ⟨ATg.run⟩

structure ATgs (X : Cx) (ts : List Expr) (ds : List D) (ρ ρ' : List O) : Prop where
  run : ∀ (E : Hp × Hp) (σ : L2.St) (G H : Hp) (vs : List V), SOk X.K E ρ σ G H → RepL X.K G vs ds → tSemGs X ts vs σ H fun σ' H' => H' = H ∧ SOk X.K E ρ' σ' G H
instance {X : Cx} {ts : List Expr} {ds : List D} {ρ ρ' : List O} : CoeFun (ATgs X ts ds ρ ρ') (fun _ => ∀ (E : Hp × Hp) (σ : L2.St) (G H : Hp) (vs : List V), SOk X.K E ρ σ G H → RepL X.K G vs ds → tSemGs X ts vs σ H fun σ' H' => H' = H ∧ SOk X.K E ρ' σ' G H) := ⟨ATgs.run⟩

theorem at_name (i : Nat) (hN : X.N.Nodup) (hi : X.N[i]? = some x := by rfl) (hx : Loc X.env.scope x := by first | exact Or.inl rfl | exact Or.inr rfl) (hf : X.fn x = true ∨ X.env.scope.names.lookup x = some .local := by first | exact .inl rfl | exact .inr rfl) : ATg X (.Name x pos) d ρ (ρ.set i (.va d)) := ⟨fun E σ G H v S r =>
  of_pg (pg_name hN hi hx hf) ⟨rfl, S.set i (o := .va d) r fun h => absurd h Bool.false_ne_true⟩⟩
theorem ats_nil : ATgs X [] [] ρ ρ := ⟨fun E σ G H vs S r => by
  cases r
  exact of_pgs pgs_nil ⟨rfl, rfl, S⟩⟩
theorem ats_cons {tg : Expr} {ts : List Expr} {ρ1 ρ2 : List O} (h : ATg X tg d ρ ρ1) (t : ATgs X ts ds ρ1 ρ2) (hs : (assignEach (tg :: ts) X.env).map (·.2) = assign tg X.env :: (assignEach ts X.env).map (·.2) := by rfl) : ATgs X (tg :: ts) (d :: ds) ρ ρ2 := ⟨fun E σ G H vs S r => by
  cases r with
  | cons r1 r2 =>
    refine of_pgs (pgs_cons sem_pg sem_pgs hs) ⟨_, _, rfl, tSemG_mono (h E σ G H _ S r1) fun σ' H' ⟨e, S'⟩ => ?_⟩
    subst e
    exact t E σ' G _ _ S' r2⟩
theorem at_tup {ts : List Expr} {k : Nat} {ρ1 : List O} (h : ATgs X ts ds ρ ρ1) (hc : X.calm = true := by rfl) (hn : (assignEach ts X.env).length = ds.length := by rfl) (hst : (assignEach ts X.env).findIdx? (·.1) = none := by rfl) : ATg X (.Tuple ts k pos) (.tup ds) ρ ρ1 := ⟨fun E σ G H v S r => by
  cases r with
  | tup h1 r1 =>
    exact of_pg (pg_tup hc sem_pgs hn hst) ⟨_, _, rfl, S.gh.t h1, by rw [r1.length], h E σ G H _ S r1⟩⟩
/-- a, b = e: e a tuple -/
theorem ws_unpack {ts : List Expr} {k : Nat} {ρ1 : List O} {pt : Pos} (h : EE X ex e ρ d) (ht : ATg X (.Tuple ts k pt) d ρ ρ1) (n : W.nx ρ1) (hs : swapsWithSole [.Tuple ts k pt] e pos.line X.env = pure false := by rfl) (hw : swappedStores [.Tuple ts k pt] e X.env = pure none := by rfl)
    (h1 : (assignEach [.Tuple ts k pt] X.env).map (·.2) = [assign (.Tuple ts k pt) X.env] := by rfl) : WS X ex (.Assign [.Tuple ts k pt] e pos) ρ W := ⟨fun E σ G H S =>
  of_ps (ps_asg sem_pe sem_pg hs hw h1) (tSem_mono (h E σ G H S) fun v H1 ⟨G1, g, r⟩ => tSemG_mono (ht E σ G1 H1 v (S.grow g) r) fun σ' H' ⟨e, S'⟩ => by
    subst e
    exact ⟨ρ1, G1, S', g.g, n⟩)⟩

/-- the invariant of a for over items: R by the turn -/
theorem ws_forL {iter tg : Expr} (R : Nat → List O → Prop) (h : EE X ex iter ρ (.lst ds)) (h0 : Up (R 0) ρ) (hp : PassesOwn (model X.prog X.w) X.A X.env X.xe)
    (hs : ∀ k d ρ, ds[k]? = some d → R k ρ → ∃ ρ', ATg X tg d ρ ρ' ∧ WSs X ex body ρ' { nx := Up (R (k + 1)), ct := Up (R (k + 1)), bk := W.nx, rt := W.rt }) (hd : ∀ ρ, R ds.length ρ → W.nx ρ) (hc : X.calm = true := by rfl)
    (hf : ∀ x, foldedSetIterable iter X.env x = pure x := by intro _; rfl) : WS X ex (.For tg iter body [] pos) ρ W := ⟨fun E σ G H S =>
  of_ps (ps_for hp hc (pi_list sem_pe) sem_pg sem_pss hf) (tSem_mono (h E σ G H S) fun v H1 ⟨G1, g, r⟩ => by
    cases r with
    | @lst a xs _ hl rl =>
      refine ⟨a, rfl, ⟨xs, g.gh.l hl⟩, for_list (K := X.K) (a := a) (xs := xs) (fun k σ' H' => ∃ ρ' G', SOk X.K E ρ' σ' G' H' ∧ Ex G1 G' ∧ R k ρ') ?_ (fun k σ' H' _ ⟨ρ', G', S', x', _⟩ => S'.gh.l (x'.app _ _ hl)) (fun k y σ' H' hk ⟨ρ', G', S', x', r'⟩ => ?_) fun σ' H' ⟨ρ', G', S', x', r'⟩ => ?_⟩
      · obtain ⟨ρ', S', r'⟩ := sok_up (S.grow g).toSOk h0
        exact ⟨ρ', G1, S', Ex.refl _, r'⟩
      · obtain ⟨d, hd', rd⟩ := rl.getV hk
        obtain ⟨ρ2, ht, hb⟩ := hs k d ρ' hd' r'
        refine tSemG_mono (ht E σ' G' H' y S' (rd.mono x')) fun σ2 H2 ⟨e, S2⟩ => ?_
        subst e
        have up : ∀ {σ3 : L2.St} {H3 : Hp}, (∃ ρ3 G3, SOk X.K E ρ3 σ3 G3 H3 ∧ Ex G' G3 ∧ Up (R (k + 1)) ρ3) → ∃ ρ' G', SOk X.K E ρ' σ3 G' H3 ∧ Ex G1 G' ∧ R (k + 1) ρ' := fun {σ3 H3} ⟨ρ3, G3, S3, x3, u⟩ => by
          obtain ⟨ρ4, S4, r4⟩ := sok_up S3 u
          exact ⟨ρ4, G3, S4, x'.trans x3, r4⟩
        exact tSemSs_mono (hb E σ2 G' _ (S.at S2 (g.g.trans x'))) (fun _ _ q => up q) (fun _ _ q => q) (fun _ _ ⟨ρ3, G3, S3, x3, q⟩ => ⟨ρ3, G3, S3, (g.g.trans x').trans x3, q⟩) (fun _ _ q => up q)
      · rw [rl.length] at r'
        exact ⟨ρ', G', S', g.g.trans x', hd ρ' r'⟩)⟩
theorem ws_forT {iter tg : Expr} (R : Nat → List O → Prop) (h : EE X ex iter ρ (.tup ds)) (h0 : Up (R 0) ρ) (hp : PassesOwn (model X.prog X.w) X.A X.env X.xe)
    (hs : ∀ k d ρ, ds[k]? = some d → R k ρ → ∃ ρ', ATg X tg d ρ ρ' ∧ WSs X ex body ρ' { nx := Up (R (k + 1)), ct := Up (R (k + 1)), bk := W.nx, rt := W.rt }) (hd : ∀ ρ, R ds.length ρ → W.nx ρ) (hc : X.calm = true := by rfl)
    (hf : ∀ x, foldedSetIterable iter X.env x = pure x := by intro _; rfl) : WS X ex (.For tg iter body [] pos) ρ W := ⟨fun E σ G H S =>
  of_ps (ps_for hp hc (pi_tup sem_pe) sem_pg sem_pss hf) (tSem_mono (h E σ G H S) fun v H1 ⟨G1, g, r⟩ => by
    cases r with
    | @tup a xs _ hl rl =>
      refine ⟨a, rfl, ⟨xs, g.gh.t hl⟩, for_tup (K := X.K) (a := a) (xs := xs) (fun k σ' H' => ∃ ρ' G', SOk X.K E ρ' σ' G' H' ∧ Ex G1 G' ∧ R k ρ') ?_ (fun k σ' H' _ ⟨ρ', G', S', x', _⟩ => S'.gh.t (x'.t hl)) (fun k y σ' H' hk ⟨ρ', G', S', x', r'⟩ => ?_) fun σ' H' ⟨ρ', G', S', x', r'⟩ => ?_⟩
      · obtain ⟨ρ', S', r'⟩ := sok_up (S.grow g).toSOk h0
        exact ⟨ρ', G1, S', Ex.refl _, r'⟩
      · obtain ⟨d, hd', rd⟩ := rl.getV hk
        obtain ⟨ρ2, ht, hb⟩ := hs k d ρ' hd' r'
        refine tSemG_mono (ht E σ' G' H' y S' (rd.mono x')) fun σ2 H2 ⟨e, S2⟩ => ?_
        subst e
        have up : ∀ {σ3 : L2.St} {H3 : Hp}, (∃ ρ3 G3, SOk X.K E ρ3 σ3 G3 H3 ∧ Ex G' G3 ∧ Up (R (k + 1)) ρ3) → ∃ ρ' G', SOk X.K E ρ' σ3 G' H3 ∧ Ex G1 G' ∧ R (k + 1) ρ' := fun {σ3 H3} ⟨ρ3, G3, S3, x3, u⟩ => by
          obtain ⟨ρ4, S4, r4⟩ := sok_up S3 u
          exact ⟨ρ4, G3, S4, x'.trans x3, r4⟩
        exact tSemSs_mono (hb E σ2 G' _ (S.at S2 (g.g.trans x'))) (fun _ _ q => up q) (fun _ _ q => q) (fun _ _ ⟨ρ3, G3, S3, x3, q⟩ => ⟨ρ3, G3, S3, (g.g.trans x').trans x3, q⟩) (fun _ _ q => up q)
      · rw [rl.length] at r'
        exact ⟨ρ', G', S', g.g.trans x', hd ρ' r'⟩)⟩
theorem sok_turn {K : PySem.W.Frag} {E : Hp × Hp} {G G1 G' : Hp} {R : List O → Prop} (x' : Ex G1 G') {σ3 : L2.St} {H3 : Hp} (h : ∃ ρ3 G3, SOk K E ρ3 σ3 G3 H3 ∧ Ex G' G3 ∧ Up R ρ3) : ∃ ρ' G', SOk K E ρ' σ3 G' H3 ∧ Ex G1 G' ∧ R ρ' := by
  obtain ⟨ρ3, G3, S3, x3, u⟩ := h
  obtain ⟨ρ4, S4, r4⟩ := sok_up S3 u
  exact ⟨ρ4, G3, S4, x'.trans x3, r4⟩
/-- for k in range(n) -/
theorem ws_forR {a tg : Expr} {p cpos : Pos} {n : Int} (R : Nat → List O → Prop) (hm : X.mg "range" = none) (h : EA X ex [a] ρ [.int n]) (h0 : Up (R 0) ρ) (hp : PassesOwn (model X.prog X.w) X.A X.env X.xe)
    (hs : ∀ (k : Nat) ρ, (k : Int) < n → R k ρ → ∃ ρ', ATg X tg (.int (k : Int)) ρ ρ' ∧ WSs X ex body ρ' { nx := Up (R (k + 1)), ct := Up (R (k + 1)), bk := W.nx, rt := W.rt }) (hd : ∀ ρ, R n.toNat ρ → W.nx ρ)
    (hn : -(2 ^ 62) ≤ n ∧ n < 2 ^ 62) (hc : X.calm = true := by rfl) (hg : Gl X "range" := by rfl)
    (hst : starEach [a] X.env = [(false, eval a X.env)] := by rfl) (hf : ∀ x, foldedSetIterable (.Call (.Name "range" p) [a] [] cpos) X.env x = pure x := by intro _; rfl) : WS X ex (.For tg (.Call (.Name "range" p) [a] [] cpos) body [] pos) ρ W := ⟨fun E σ G H S =>
  of_ps (ps_for hp hc (pi_range1 hg hm sem_pa hst) sem_pg sem_pss hf) (tSemA_mono (h E σ G H S) fun vs H1 ⟨G1, g, r⟩ => by
    obtain ⟨v, rfl, r1⟩ := r.of1
    cases r1
    refine ⟨n, rfl, hn.1, hn.2, for_range (lo := 0) (n := n.toNat) (fun k σ' H' => ∃ ρ' G', SOk X.K E ρ' σ' G' H' ∧ Ex G1 G' ∧ R k ρ') ?_ (fun k σ' H' hk ⟨ρ', G', S', x', r'⟩ => ?_) fun σ' H' ⟨ρ', G', S', x', r'⟩ => ⟨ρ', G', S', g.g.trans x', hd ρ' r'⟩⟩
    · obtain ⟨ρ', S', r'⟩ := sok_up (S.grow g).toSOk h0
      exact ⟨ρ', G1, S', Ex.refl _, r'⟩
    · obtain ⟨ρ2, ht, hb⟩ := hs k ρ' (by omega) r'
      rw [Int.zero_add]
      refine tSemG_mono (ht E σ' G' H' _ S' (.int _)) fun σ2 H2 ⟨e, S2⟩ => ?_
      subst e
      exact tSemSs_mono (hb E σ2 G' _ (S.at S2 (g.g.trans x'))) (fun _ _ q => sok_turn (G := G) x' q) (fun _ _ q => q) (fun _ _ ⟨ρ3, G3, S3, x3, q⟩ => ⟨ρ3, G3, S3, (g.g.trans x').trans x3, q⟩) (fun _ _ q => sok_turn (G := G) x' q))⟩
/-- for k in range(lo, hi) -/
theorem ws_forR2 {a b tg : Expr} {p cpos : Pos} {lo n : Int} (R : Nat → List O → Prop) (hm : X.mg "range" = none) (h : EA X ex [a, b] ρ [.int lo, .int n]) (h0 : Up (R 0) ρ) (hp : PassesOwn (model X.prog X.w) X.A X.env X.xe)
    (hs : ∀ (k : Nat) ρ, lo + (k : Int) < n → R k ρ → ∃ ρ', ATg X tg (.int (lo + (k : Int))) ρ ρ' ∧ WSs X ex body ρ' { nx := Up (R (k + 1)), ct := Up (R (k + 1)), bk := W.nx, rt := W.rt }) (hd : ∀ ρ, R (n - lo).toNat ρ → W.nx ρ)
    (hn : -(2 ^ 62) ≤ lo ∧ lo < 2 ^ 62 ∧ -(2 ^ 62) ≤ n ∧ n < 2 ^ 62) (hc : X.calm = true := by rfl) (hg : Gl X "range" := by rfl)
    (hst : starEach [a, b] X.env = [(false, eval a X.env), (false, eval b X.env)] := by rfl) (hst2 : starEach [b] X.env = [(false, eval b X.env)] := by rfl) (hf : ∀ x, foldedSetIterable (.Call (.Name "range" p) [a, b] [] cpos) X.env x = pure x := by intro _; rfl) : WS X ex (.For tg (.Call (.Name "range" p) [a, b] [] cpos) body [] pos) ρ W := ⟨fun E σ G H S =>
  of_ps (ps_for hp hc (pi_range2 hg hm sem_pa hst hst2) sem_pg sem_pss hf) (tSemA_mono (h E σ G H S) fun vs H1 ⟨G1, g, r⟩ => by
    obtain ⟨v, w, rfl, r1, r2⟩ := r.of2
    cases r1; cases r2
    refine ⟨lo, n, rfl, hn, for_range (lo := lo) (n := (n - lo).toNat) (fun k σ' H' => ∃ ρ' G', SOk X.K E ρ' σ' G' H' ∧ Ex G1 G' ∧ R k ρ') ?_ (fun k σ' H' hk ⟨ρ', G', S', x', r'⟩ => ?_) fun σ' H' ⟨ρ', G', S', x', r'⟩ => ⟨ρ', G', S', g.g.trans x', hd ρ' r'⟩⟩
    · obtain ⟨ρ', S', r'⟩ := sok_up (S.grow g).toSOk h0
      exact ⟨ρ', G1, S', Ex.refl _, r'⟩
    · obtain ⟨ρ2, ht, hb⟩ := hs k ρ' (by omega) r'
      refine tSemG_mono (ht E σ' G' H' _ S' (.int _)) fun σ2 H2 ⟨e, S2⟩ => ?_
      subst e
      exact tSemSs_mono (hb E σ2 G' _ (S.at S2 (g.g.trans x'))) (fun _ _ q => sok_turn (G := G) x' q) (fun _ _ q => q) (fun _ _ ⟨ρ3, G3, S3, x3, q⟩ => ⟨ρ3, G3, S3, (g.g.trans x').trans x3, q⟩) (fun _ _ q => sok_turn (G := G) x' q))⟩
end

/-! ### a def keeps its promise -/
/-- the slots at the entry -/
def slots (n : Nat) (ds : List D) : List O := ds.map O.va ++ List.replicate (n - ds.length) .un
theorem sok_start {K : PySem.W.Frag} {G H : Hp} {vs : List V} {ds : List D} {N : List Str} (tb : Tb H) (e : Ex G H) (r : RepL K G vs ds) : SOk K (G, H) (slots N.length ds) (start N vs) G H := by
  have hlen := r.length
  refine ⟨Ex.refl _, e, Ex.refl _, fun b h q => absurd h q, ?_, fun i o h => ?_, fun i j a hi _ => ?_, tb⟩
  · unfold slots L2.start
    rw [List.length_append, List.length_append, List.length_map, List.length_map, List.length_replicate, List.length_replicate, hlen]
  · unfold slots at h
    by_cases hi : i < ds.length
    · rw [List.getElem?_append_left (by rw [List.length_map]; exact hi), List.getElem?_map] at h
      cases hd : ds[i]? with
      | none => rw [hd] at h; cases h
      | some d =>
        rw [hd] at h
        obtain rfl : O.va d = o := Option.some.inj h
        obtain ⟨v, hv, rv⟩ := r.get hd
        refine .inr ⟨v, ?_, rv⟩
        unfold L2.start
        rw [List.getElem?_append_left (by rw [List.length_map, hlen]; exact hi), List.getElem?_map, hv]; rfl
    · rw [List.getElem?_append_right (by rw [List.length_map]; omega), List.getElem?_replicate] at h
      split at h
      · exact .inl (Option.some.inj h).symm
      · cases h
  · obtain ⟨⟨o, h, p⟩, _⟩ := hi
    unfold slots at h
    by_cases hi : i < ds.length
    · rw [List.getElem?_append_left (by rw [List.length_map]; exact hi), List.getElem?_map] at h
      cases hd : ds[i]? with
      | none => rw [hd] at h; cases h
      | some d =>
        rw [hd] at h
        obtain rfl : O.va d = o := Option.some.inj h
        exact absurd p Bool.false_ne_true
    · rw [List.getElem?_append_right (by rw [List.length_map]; omega), List.getElem?_replicate] at h
      split at h
      · obtain rfl := Option.some.inj h
        exact absurd p Bool.false_ne_true
      · cases h
section
variable {P : Program} {w : World} {K : PySem.W.Frag} {mg : Str → Option Value} {base : Heap}
/-- from the body's walk to the def's promise -/
theorem spec_ok {X : Cx} {S : Spc} {N : List Str} {body : List Stmt} {vs : List V} {H : Hp} {Q : VK} {E : XK} (hK : X.K = K) (h : spOf K S vs H Q E)
    (hb : ∀ ds (P : O → Prop), S.S ds P → WSs X noX body (slots N.length ds) { nx := fun _ => P (.va .non), rt := P }) :
    tSemSs X body { nx := fun _ H' => Q .non H', rt := Q } (start N vs) H := by
  subst hK
  obtain ⟨tb, ds, G, e, r, h⟩ := h
  refine tSemSs_mono (hb ds _ h (G, H) _ G H (sok_start tb e r).nox) (fun σ' H' ⟨ρ', G', S', x, q⟩ => ?_) (fun v H' ⟨o, G', R, q⟩ => ?_) (fun _ _ ⟨_, _, _, _, q⟩ => q.elim) (fun _ _ ⟨_, _, _, _, q⟩ => q.elim)
  · exact q .non G' H' ⟨S'.g0, S'.h0, S'.gh, S'.fr, fun _ => S'.tb⟩ .non
  · exact q v G' H' ⟨R.g0, R.h0, R.gh, R.fr, fun _ => R.tb⟩ R.ok
end
end TG
/-! Defs of the text over plain data: what stands (DefT), what may be called (Cal), the law's end. -/
namespace TG
open PySem PySem.Spec PyProof.Rows L2
variable [TbT]

/-- a def of the module's top, with its defaults -/
structure DefT (K : PySem.W.Frag) (mg : Str → Option Value) (x : Str) (st : Stmt) (ps : List Str) (dvs : List V) : Prop where
  ex : ∃ (f : Addr) (fd : FuncData), FunD K x x (defArgs st) (defBody st) (defScope st) dvs [] f fd ∧ mg x = some (.ref f) ∧ ∀ j ≤ dvs.length, ∃ ds, Vals (dvs.drop j) ds ∧ Binds K fd ps ds
/-- a def that keeps its promise, called with some of its defaults (dds) left out -/
structure Cal (P : Program) (w : World) (K : PySem.W.Frag) (mg : Str → Option Value) (base : Heap) (k : Nat) (x : Str) (S : Spc) (dds : List D) : Prop where
  ex : ∃ (f : Addr) (fd : FuncData) (ps : List Str) (dvs : List V) (dus : List Value), FnOk P w K mg base CX0 k f fd ps (spOf K S) ∧ mg x = some (.ref f) ∧ PySem.W.keepIn K (.ref f) = true ∧ Binds K fd ps dus ∧ Vals dvs dus ∧ ∀ G, RepL K G dvs dds
section
variable {P : Program} {w : World} {K : PySem.W.Frag} {mg : Str → Option Value} {base : Heap} {x : Str} {st : Stmt} {ps : List Str} {dvs : List V} {k : Nat} {S : Spc}
/-- the def's own heap of facts, once -/
theorem DefT.fn (T : DefT K mg x st ps dvs) {N : List Str} (Sc : FnScope N ps (defScope st)) (len : ∀ ds Q, S.S ds Q → ds.length = ps.length)
    (hbody : ∀ (f : Addr) (cdv : Value) (A : Around) (outer : List Env) (s : Shared) (H : Hp), Room k (A.deeper (envOfC x (defScope st) s.heap.objs.size f cdv)) → ∀ ds (Q : O → Prop), S.S ds Q →
      WSs (cxOf CX0 P w K mg base N x (defScope st) f cdv A outer s H E0).nox noX (defBody st) (slots N.length ds) { nx := fun _ => Q (.va .non), rt := Q }) :
    ∃ (f : Addr) (fd : FuncData), FnOk P w K mg base CX0 (k + 1) f fd ps (spOf K S) ∧ mg x = some (.ref f) ∧ PySem.W.keepIn K (.ref f) = true ∧ ∀ j ≤ dvs.length, ∃ ds, Vals (dvs.drop j) ds ∧ Binds K fd ps ds := by
  obtain ⟨f, fd, F, hm, hb⟩ := T.ex
  refine ⟨f, fd, F.ok Sc (fun vs H Q E ⟨_, ds, G, e, r, h⟩ => ?_) (fun cdv A outer s H vs Q E hr h => ?_), hm, F.kp, hb⟩
  · rw [r.length]; exact len ds _ h
  · exact ⟨tSemSs (cxOf CX0 P w K mg base N x (defScope st) f cdv A outer s H E).nox _, PSs.nox sem_pss, spec_ok (X := (cxOf CX0 P w K mg base N x (defScope st) f cdv A outer s H E).nox) rfl h fun ds P hS => hbody f cdv A outer s H hr ds P hS⟩
theorem cal_of (h : ∃ (f : Addr) (fd : FuncData), FnOk P w K mg base CX0 k f fd ps (spOf K S) ∧ mg x = some (.ref f) ∧ PySem.W.keepIn K (.ref f) = true ∧ ∀ j ≤ dvs.length, ∃ ds, Vals (dvs.drop j) ds ∧ Binds K fd ps ds)
    (j : Nat) (hj : j ≤ dvs.length) {dds : List D} (hd : ∀ G, RepL K G (dvs.drop j) dds) : Cal P w K mg base k x S dds := by
  obtain ⟨f, fd, F, hm, hk, hb⟩ := h
  obtain ⟨ds, r, b⟩ := hb j hj
  exact ⟨f, fd, ps, dvs.drop j, ds, F, hm, hk, b, r, hd⟩
theorem Cal.mono {j : Nat} {dds : List D} (C : Cal P w K mg base k x S dds) (h : k ≤ j) : Cal P w K mg base j x S dds := by
  obtain ⟨f, fd, ps, dvs, dus, F, r⟩ := C.ex
  exact ⟨f, fd, ps, dvs, dus, F.mono h, r⟩
theorem Cal.imp {S' : Spc} {dds : List D} (C : Cal P w K mg base k x S dds) (h : ∀ ds Q, S'.S ds Q → S.S ds Q) : Cal P w K mg base k x S' dds := by
  obtain ⟨f, fd, ps, dvs, dus, F, r⟩ := C.ex
  exact ⟨f, fd, ps, dvs, dus, F.imp (fun vs H Q E ⟨tb, ds, G, e, r, q⟩ => ⟨tb, ds, G, e, r, h _ _ q⟩), r⟩
end
section
variable {X : Cx} {ex : Exs} {ρ : List O} {e : Expr} {es : List Expr} {d : D} {ds dds : List D} {pos p : Pos} {k : Nat} {x : Str} {S : Spc} {P : O → Prop}
theorem eo_cal (C : Cal X.prog X.w X.K X.mg X.base k x S dds) (hr : Room k X.A) (ha : EA X ex (e :: es) ρ ds) (hq : S.S (ds ++ dds) P) (hg : Gl X x := by rfl) (hdb : (x == ("__debug__" : Str)) = false := by decide) (he : starEach (e :: es) X.env = (false, eval e X.env) :: starEach es X.env := by rfl) (hpl : (backTo pos (starEach es X.env)).any (·.1) = false := by rfl) :
    EO X ex (.Call (.Name x p) (e :: es) [] pos) ρ P := by
  obtain ⟨f, fd, ps, dvs, dus, F, hm, hk, hb, hv, hd⟩ := C.ex
  exact eo_call F hr hm hk hb hv hd pass0 ha hq hg hdb he hpl
theorem eo_cal0 (C : Cal X.prog X.w X.K X.mg X.base k x S dds) (hr : Room k X.A) (hq : S.S dds P) (hg : Gl X x := by rfl) (hdb : (x == ("__debug__" : Str)) = false := by decide) : EO X ex (.Call (.Name x p) [] [] pos) ρ P := by
  obtain ⟨f, fd, ps, dvs, dus, F, hm, hk, hb, hv, hd⟩ := C.ex
  exact eo_call0 F hr hm hk hb hv hd pass0 hq hg hdb
theorem ee_cal (C : Cal X.prog X.w X.K X.mg X.base k x S dds) (hr : Room k X.A) (ha : EA X ex (e :: es) ρ ds) (hq : S.S (ds ++ dds) (fun o => o = .va d)) (hg : Gl X x := by rfl) (hdb : (x == ("__debug__" : Str)) = false := by decide) (he : starEach (e :: es) X.env = (false, eval e X.env) :: starEach es X.env := by rfl) (hpl : (backTo pos (starEach es X.env)).any (·.1) = false := by rfl) :
    EE X ex (.Call (.Name x p) (e :: es) [] pos) ρ d := ee_va (eo_cal C hr ha hq hg hdb he hpl)
omit [TbT] in
theorem fn_call {α : Type} {args : α → List D} {pre : α → Prop} {res : α → O} {Q : O → Prop} (y : α) (e : ds = args y) (h : pre y) (q : Q (res y)) : (Spc.fn args pre res).S ds Q := ⟨y, e, h, q⟩
omit [TbT] in
theorem rel_call {α : Type} {args : α → List D} {pre : α → Prop} {post : α → O → Prop} {Q : O → Prop} (y : α) (e : ds = args y) (h : pre y) (q : ∀ o, post y o → Q o) : (Spc.rel args pre post).S ds Q := ⟨y, e, h, q⟩
/-- the slots written out -/
theorem ws_norm {sts : List Stmt} {W : Eds} {ρ ρ' : List O} (e : ρ = ρ') (h : WSs X ex sts ρ' W) : WSs X ex sts ρ W := e ▸ h
omit [TbT] in
theorem nox_own {Y : Cx} : PassesOwn (model Y.nox.prog Y.nox.w) Y.nox.A Y.nox.env Y.nox.xe := PassesOwn.never
end
/-! ### built-ins by their names -/
omit [TbT] in
theorem bt_int : bootBuiltins "int" = some (.type "int") := by decide +kernel
omit [TbT] in
theorem bt_bool : bootBuiltins "bool" = some (.type "bool") := by decide +kernel
omit [TbT] in
theorem bt_str : bootBuiltins "str" = some (.type "str") := by decide +kernel
omit [TbT] in
theorem bt_tuple : bootBuiltins "tuple" = some (.type "tuple") := by decide +kernel
omit [TbT] in
theorem bt_list : bootBuiltins "list" = some (.type "list") := by decide +kernel

/-! ### the law's end -/
def lawS : Spc := Spc.fn (α := List Int) (fun ns => [.cst (ns.map .int)]) (fun ns => ns.length ≤ 63) (fun _ => .va (.bl true))
omit [TbT] in
theorem repL_ints {K : PySem.W.Frag} {G : Hp} : ∀ ns : List Int, RepL K G (ns.map V.int) (ns.map D.int)
  | [] => .nil
  | n :: r => .cons (.int n) (repL_ints r)
theorem law_sp (K : PySem.W.Frag) (H : Hp) (a : Addr) (ns : List Int) (hl : ns.length ≤ 63) (tb : Tb H) (hS : SqL K H a (ns.map V.int)) : spOf K lawS [.ref a] H (fun v _ => v = .bl true) fun _ _ _ => False :=
  ⟨tb, [.cst (ns.map .int)], H, Ex.refl _, .cons (.cst hS (repL_ints ns)) .nil, ns, rfl, hl, fun v G' H' g q => by
    have q' : Rep K G' v (.bl true) := q
    cases q'; rfl⟩
/-- what the last theorem wants of the law's def -/
theorem law_fin {P : Program} {w : World} {K : PySem.W.Frag} {mg : Str → Option Value} {k : Nat} {fa : Addr} {x : Str} {st : Stmt} (hfa : mg x = some (.ref fa)) (T : DefT K mg x st ["script"] [])
    (hb : ∀ (f : Addr) (fd : FuncData), FunD K x x (defArgs st) (defBody st) (defScope st) [] [] f fd → ∀ (s : Shared) (u : Value), BindsTo s fd ⟨[u], []⟩ [("script", u)])
    (h : ∀ base : Heap, K.In base → base.Ns mainGlobals mg → ∀ (f : Addr) (fd : FuncData), FunD K x x (defArgs st) (defBody st) (defScope st) [] [] f fd → FnOk P w K mg base CX0 k f fd ["script"] (spOf K lawS)) :
    ∃ fd : FuncData, (∀ (s : Shared) (u : Value), BindsTo s fd ⟨[u], []⟩ [("script", u)]) ∧ ∀ base : Heap, K.In base → base.Ns mainGlobals mg → FnOk P w K mg base CX0 k fa fd ["script"] (spOf K lawS) := by
  obtain ⟨f, fd, F, hm, _⟩ := T.ex
  rw [hfa] at hm; cases hm
  exact ⟨fd, hb _ _ F, fun base h1 h2 => h base h1 h2 _ _ F⟩
/-- the same as DefT.fn at a given address -/
theorem FunD.okD {P : Program} {w : World} {K : PySem.W.Frag} {mg : Str → Option Value} {base : Heap} {x : Str} {st : Stmt} {ps : List Str} {dvs : List V} {k : Nat} {S : Spc} {f : Addr} {fd : FuncData} (F : FunD K x x (defArgs st) (defBody st) (defScope st) dvs [] f fd) {N : List Str} (Sc : FnScope N ps (defScope st)) (len : ∀ ds Q, S.S ds Q → ds.length = ps.length)
    (hbody : ∀ (f : Addr) (cdv : Value) (A : Around) (outer : List Env) (s : Shared) (H : Hp), Room k (A.deeper (envOfC x (defScope st) s.heap.objs.size f cdv)) → ∀ ds (Q : O → Prop), S.S ds Q →
      WSs (cxOf CX0 P w K mg base N x (defScope st) f cdv A outer s H E0).nox noX (defBody st) (slots N.length ds) { nx := fun _ => Q (.va .non), rt := Q }) : FnOk P w K mg base CX0 (k + 1) f fd ps (spOf K S) := by
  refine F.ok Sc (fun vs H Q E ⟨_, ds, G, e, r, h⟩ => ?_) (fun cdv A outer s H vs Q E hr h => ?_)
  · rw [r.length]; exact len ds _ h
  · exact ⟨tSemSs (cxOf CX0 P w K mg base N x (defScope st) f cdv A outer s H E).nox _, PSs.nox sem_pss, spec_ok (X := (cxOf CX0 P w K mg base N x (defScope st) f cdv A outer s H E).nox) rfl h fun ds P hS => hbody f cdv A outer s H hr ds P hS⟩
/-- a def without defaults, as the end finds it -/
theorem defT_mk {K : PySem.W.Frag} {mg : Str → Option Value} {x : Str} {st : Stmt} {ps : List Str} {f : Addr} {oc : Value} {od an : Option Addr} {osl : Array (Option Value)} {kV doc pm cdv ct : Value} (hm : mg x = some (.ref f))
    (l : K.lookup f = some ⟨oc, od, .func (PySem.W.fnOf x x (defArgs st) (defBody st) (defScope st) .none kV doc pm an cdv ct), osl⟩) (c : PySem.W.codeIn K cdv x = true) (kp : PySem.W.keepIn K (.ref f) = true)
    (h : ∀ (kV doc pm : Value) (an : Option Addr) (cdv ct : Value) (us : List Value), us.length = ps.length → bindArgs (PySem.W.fnOf x x (defArgs st) (defBody st) (defScope st) .none kV doc pm an cdv ct) ⟨us, []⟩ = pure (ps.zip us)) : DefT K mg x st ps [] := by
  have F : FunD K x x (defArgs st) (defBody st) (defScope st) [] [] f _ := ⟨⟨oc, od, .none, kV, doc, pm, an, cdv, ct, osl, rfl, l, c, .inl ⟨rfl, rfl⟩, .inl rfl⟩, kp⟩
  exact ⟨f, _, F, hm, fun j hj => ⟨[], by rw [List.drop_nil]; exact .nil, F.bindsN h⟩⟩
/-- one with defaults -/
theorem defT_mkD {K : PySem.W.Frag} {mg : Str → Option Value} {x : Str} {st : Stmt} {ps : List Str} {f : Addr} {dvs : List V} {oc : Value} {od an : Option Addr} {osl : Array (Option Value)} {dV kV doc pm cdv ct : Value} (hm : mg x = some (.ref f))
    (l : K.lookup f = some ⟨oc, od, .func (PySem.W.fnOf x x (defArgs st) (defBody st) (defScope st) dV kV doc pm an cdv ct), osl⟩) (c : PySem.W.codeIn K cdv x = true) (kp : PySem.W.keepIn K (.ref f) = true) (hd : dvs ≠ [])
    (hD : ∃ (T : Addr) (o : Obj) (its : List Value) (n : Nat), dV = .ref T ∧ K.lookup T = some o ∧ o.data = .seq its.toArray n ∧ Vals dvs its) (hl : dvs.length ≤ ps.length)
    (h : ∀ j ≤ dvs.length, ∀ (T : Addr) (kV doc pm : Value) (an : Option Addr) (cdv ct : Value) (us its : List Value), us.length + (dvs.length - j) = ps.length → its.length = dvs.length →
      ∃ k, bindArgs (PySem.W.fnOf x x (defArgs st) (defBody st) (defScope st) (.ref T) kV doc pm an cdv ct) ⟨us, []⟩ = seqItems? (.ref T) >>= k ∧ k (some its.toArray) = pure (ps.zip (us ++ its.drop j))) : DefT K mg x st ps dvs := by
  have F : FunD K x x (defArgs st) (defBody st) (defScope st) dvs [] f _ := ⟨⟨oc, od, dV, kV, doc, pm, an, cdv, ct, osl, rfl, l, c, .inr ⟨hd, hD⟩, .inl rfl⟩, kp⟩
  exact ⟨f, _, F, hm, fun j hj => F.binds1 (ps.length - (dvs.length - j)) j hd (by omega) fun T kV doc pm an cdv ct us its hu hi => h j hj T kV doc pm an cdv ct us its (by omega) hi⟩
end TG
/-! Small things that the walks use; sizes; fractions. -/
namespace TG
open PySem PySem.Spec PyProof.Rows L2
variable [TbT]
omit [TbT] in
theorem up_intro {R : List O → Prop} {ρ ρ' : List O} (r : R ρ') (l : Le ρ ρ') : Up R ρ := ⟨ρ', l, r⟩
/-- the length of a list or tuple that stands in a slot -/
theorem ws_len {X : Cx} {ex : Exs} {ρ : List O} {sts : List Stmt} {W : Eds} {d : D} {ds : List D} (i : Nat) (hr : ρ[i]? = some (.va d)) (hi : d.items = some ds) (h : ds.length ≤ sizeLine → WSs X ex sts ρ W) : WSs X ex sts ρ W := ⟨fun E σ G H S pins s I => by
  obtain ⟨v, _, r⟩ := S.get hr
  cases r with
  | tup h1 r1 =>
    cases hi
    obtain ⟨_, _, _, z⟩ := I.tuple (S.gh.t h1)
    rw [r1.length] at z
    exact h z E σ G H S pins s I
  | lst h1 r1 =>
    cases hi
    obtain ⟨_, _, _, z⟩ := I.list (S.gh.l h1)
    rw [r1.length] at z
    exact h z E σ G H S pins s I
  | cst h1 r1 =>
    cases hi
    obtain ⟨_, _, _, z⟩ := I.list (S.gh.lc h1)
    rw [r1.length] at z
    exact h z E σ G H S pins s I
  | _ => cases hi⟩
omit [TbT] in
theorem line_lt {n : Nat} (h : n ≤ sizeLine) : -(2 ^ 62) ≤ (n : Int) ∧ (n : Int) < 2 ^ 62 := by
  rw [sizeLine_eq] at h
  omega
omit [TbT] in
mutual
theorem eqv_self : ∀ d : D, d.plain = true → D.eqv d d = true
  | .non, _ => rfl
  | .bl b, _ => by simp [D.eqv, D.py, PyData.eqv]
  | .int i, _ => by simp [D.eqv, D.py, PyData.eqv]
  | .str x, _ => by simp [D.eqv, D.py, PyData.eqv]
  | .ty _, h => by cases h
  | .cst _, h => by cases h
  | .dct _ _, h => by cases h
  | .dci _ _, h => by cases h
  | .obj _ _ _, h => by cases h
  | .tup ds, h => eqvs_self ds h
  | .lst ds, h => eqvs_self ds h
theorem eqvs_self : ∀ ds : List D, D.plains ds = true → PyData.eqvAll (D.pys ds) (D.pys ds) = true
  | [], _ => rfl
  | d :: r, h => by
    have h' : (D.plain d && D.plains r) = true := h
    rw [Bool.and_eq_true] at h'
    show (PyData.eqv d.py d.py && PyData.eqvAll (D.pys r) (D.pys r)) = true
    rw [show PyData.eqv d.py d.py = true from eqv_self d h'.1, eqvs_self r h'.2]; rfl
end
omit [TbT] in
theorem plains_get : ∀ {ds : List D} {k : Nat} {d : D}, D.plains ds = true → ds[k]? = some d → d.plain = true
  | [], _, _, _, e => by simp at e
  | a :: r, 0, d, h, e => by
    have h' : (D.plain a && D.plains r) = true := h
    rw [Bool.and_eq_true] at h'
    simp at e; subst e; exact h'.1
  | a :: r, k + 1, d, h, e => by
    have h' : (D.plain a && D.plains r) = true := h
    rw [Bool.and_eq_true] at h'
    exact plains_get (k := k) h'.2 (by simpa using e)
omit [TbT] in
theorem depths_get : ∀ {ds : List D} {k : Nat} {d : D}, ds[k]? = some d → d.depth ≤ D.depths ds
  | [], _, _, e => by simp at e
  | a :: r, 0, d, e => by
    simp at e; subst e
    exact Nat.le_max_left _ _
  | a :: r, k + 1, d, e => Nat.le_trans (depths_get (k := k) (by simpa using e)) (Nat.le_max_right _ _)
omit [TbT] in
theorem tyN_plain {d : D} (h : d.plain = true) : d.tyN ≠ "" := by
  cases d <;> first
    | (cases h; done)
    | simp [D.tyN]
omit [TbT] in
/-- a list or a tuple -/
theorem isA_items : ∀ {d : D}, (d.isA "list" || d.isA "tuple") = true → ∃ ds, d.items = some ds ∧ d.plain = D.plains ds ∧ d.depth = D.depths ds + 1
  | .non, h => absurd (show (isAT "NoneType" "list" || isAT "NoneType" "tuple") = true from h) (by decide)
  | .bl _, h => absurd (show (isAT "bool" "list" || isAT "bool" "tuple") = true from h) (by decide)
  | .int _, h => absurd (show (isAT "int" "list" || isAT "int" "tuple") = true from h) (by decide)
  | .str _, h => absurd (show (isAT "str" "list" || isAT "str" "tuple") = true from h) (by decide)
  | .ty _, h => absurd (show (isAT "" "list" || isAT "" "tuple") = true from h) (by decide)
  | .tup ds, _ => ⟨ds, rfl, rfl, rfl⟩
  | .lst ds, _ => ⟨ds, rfl, rfl, rfl⟩
  | .dci _ _, h => absurd (show (isAT "" "list" || isAT "" "tuple") = true from h) (by decide)
  | .cst _, h => absurd (show (isAT "" "list" || isAT "" "tuple") = true from h) (by decide)
  | .dct _ _, h => absurd (show (isAT "" "list" || isAT "" "tuple") = true from h) (by decide)
  | .obj _ _ _, h => absurd (show (isAT "" "list" || isAT "" "tuple") = true from h) (by decide)
omit [TbT] in
theorem isA_flat : ∀ {d : D}, (d.isA "list" || d.isA "tuple") = false → d.depth = 0
  | .non, _ => rfl
  | .bl _, _ => rfl
  | .int _, _ => rfl
  | .str _, _ => rfl
  | .ty _, _ => rfl
  | .cst _, _ => rfl
  | .dct _ _, _ => rfl
  | .dci _ _, _ => rfl
  | .obj _ _ _, _ => rfl
  | .tup _, h => absurd (show (isAT "tuple" "list" || isAT "tuple" "tuple") = false from h) (by decide)
  | .lst _, h => absurd (show (isAT "list" "list" || isAT "list" "tuple") = false from h) (by decide)
omit [TbT] in
theorem atI_of {ds : List D} {k : Nat} (h : k < ds.length) : atI ds (k : Int) = some (ds[k]'h) := atI_nat (List.getElem?_eq_getElem h)

/-! ### sizes -/
def Sz (n : Nat) (x : Int) : Prop := x.natAbs < 2 ^ n
omit [TbT] in
theorem Sz.mono {m n : Nat} {x : Int} (h : Sz m x) (l : m ≤ n) : Sz n x := Nat.lt_of_lt_of_le h (Nat.pow_le_pow_right (by decide) l)
omit [TbT] in
theorem Sz.mulW {m n : Nat} {x y : Int} (h : Sz m x) (k : Sz n y) (hm : 0 < m := by decide) (hn : 0 < n := by decide) (l : m + n ≤ 1000000 := by decide) : CMulW x y := wide_mul h k hm hn l
omit [TbT] in
theorem Sz.mul {m n : Nat} {x y : Int} (h : Sz m x) (k : Sz n y) : Sz (m + n) (x * y) := wide_lt h k
omit [TbT] in
theorem Sz.add {m n : Nat} {x y : Int} (h : Sz m x) (k : Sz n y) : Sz (max m n + 1) (x + y) := by
  have h1 := h.mono (Nat.le_max_left m n)
  have h2 := k.mono (Nat.le_max_right m n)
  unfold Sz at *
  rw [Nat.pow_succ]
  omega
omit [TbT] in
theorem Sz.sub {m n : Nat} {x y : Int} (h : Sz m x) (k : Sz n y) : Sz (max m n + 1) (x - y) := by
  have h1 := h.mono (Nat.le_max_left m n)
  have h2 := k.mono (Nat.le_max_right m n)
  unfold Sz at *
  rw [Nat.pow_succ]
  omega
omit [TbT] in
theorem Sz.le {n : Nat} {x y : Int} (h : Sz n y) (l : x.natAbs ≤ y.natAbs) : Sz n x := Nat.lt_of_le_of_lt l h
omit [TbT] in
theorem Sz.neg {n : Nat} {x : Int} (h : Sz n x) : Sz n (-x) := by unfold Sz at *; omega
omit [TbT] in
theorem Sz.nn {n : Nat} {x : Int} (h0 : 0 ≤ x) (h : x < 2 ^ n) : Sz n x := by
  unfold Sz
  have : ((2 ^ n : Nat) : Int) = (2 : Int) ^ n := by simp
  omega
omit [TbT] in
theorem Sz.div {n : Nat} {x y : Int} (h0 : y ≠ 0) (h : Sz n y) (hn : 0 < n := by decide) (l : n ≤ 9000 := by decide) : CDivV x y := ⟨h0, Nat.lt_of_lt_of_le (PySem.Flt.log2_lt_of hn h) l⟩
omit [TbT] in
theorem sz_lit {n : Nat} {x : Int} (h : decide (x.natAbs < 2 ^ n) = true) : Sz n x := (of_decide_eq_true h : x.natAbs < 2 ^ n)

/-! ### fractions: n / d in lowest terms, the denominator positive -/
/-- what both are divided by -/
def fg (n d : Int) : Int := if d < 0 then -(Int.gcd n d : Int) else (Int.gcd n d : Int)
def fN (n d : Int) : Int := n.fdiv (fg n d)
def fD (n d : Int) : Int := d.fdiv (fg n d)
omit [TbT] in
theorem gcd_pos {n d : Int} (h : d ≠ 0) : 0 < (Int.gcd n d : Int) := by
  have : 0 < Int.gcd n d := Int.gcd_pos_of_ne_zero_right n h
  omega
omit [TbT] in
theorem gcd_le {n d : Int} (h : d ≠ 0) : Int.gcd n d ≤ d.natAbs := Nat.le_of_dvd (Int.natAbs_pos.mpr h) (Int.gcd_dvd_natAbs_right n d)
omit [TbT] in
theorem fg_ne {n d : Int} (h : d ≠ 0) : fg n d ≠ 0 := by
  have := gcd_pos (n := n) h
  unfold fg
  split <;> omega
omit [TbT] in
theorem fg_sz {k : Nat} {n d : Int} (h : d ≠ 0) (hs : Sz k d) : Sz k (fg n d) := by
  have := gcd_le (n := n) h
  unfold fg Sz at *
  split <;> omega
omit [TbT] in
theorem fg_dvd_n (n d : Int) : fg n d ∣ n := by
  unfold fg
  split
  · exact Int.neg_dvd.mpr (Int.gcd_dvd_left ..)
  · exact Int.gcd_dvd_left ..
omit [TbT] in
theorem fg_dvd_d (n d : Int) : fg n d ∣ d := by
  unfold fg
  split
  · exact Int.neg_dvd.mpr (Int.gcd_dvd_right ..)
  · exact Int.gcd_dvd_right ..
omit [TbT] in
theorem fdiv_mul {a b : Int} (h : b ∣ a) : a.fdiv b * b = a := Int.fdiv_mul_cancel h
omit [TbT] in
theorem fN_mul {n d : Int} : fN n d * fg n d = n := fdiv_mul (fg_dvd_n n d)
omit [TbT] in
theorem fD_mul {n d : Int} : fD n d * fg n d = d := fdiv_mul (fg_dvd_d n d)
omit [TbT] in
theorem fg_sign {n d : Int} (h : d ≠ 0) : 0 < d * fg n d := by
  have := gcd_pos (n := n) h
  unfold fg
  split
  · rw [Int.mul_neg, ← Int.neg_mul]
    exact Int.mul_pos (by omega) this
  · exact Int.mul_pos (by omega) this
omit [TbT] in
theorem fD_pos {n d : Int} (h : d ≠ 0) : 0 < fD n d := by
  have h1 := fg_sign (n := n) h
  have h2 := @fD_mul n d
  have h3 := fg_ne (n := n) h
  by_cases c : 0 < fD n d
  · exact c
  · exfalso
    have : fD n d * (fg n d * fg n d) ≤ 0 := by
      have q : 0 ≤ fg n d * fg n d := by
        rcases Int.lt_or_gt_of_ne h3 with z | z
        · exact Int.le_of_lt (Int.mul_pos_of_neg_of_neg z z)
        · exact Int.le_of_lt (Int.mul_pos z z)
      have := Int.mul_le_mul_of_nonneg_right (Int.not_lt.mp c) q
      rwa [Int.zero_mul] at this
    rw [← Int.mul_assoc, h2] at this
    omega
omit [TbT] in
theorem fN_cross {n d : Int} : fN n d * d = n * fD n d := by
  have h1 := @fN_mul n d
  have h2 := @fD_mul n d
  calc fN n d * d = fN n d * (fD n d * fg n d) := by rw [h2]
    _ = (fN n d * fg n d) * fD n d := by rw [Int.mul_comm (fD n d), Int.mul_assoc]
    _ = n * fD n d := by rw [h1]
omit [TbT] in
theorem natAbs_le_mul {a b : Int} (h : b ≠ 0) : a.natAbs ≤ (a * b).natAbs := by
  rw [Int.natAbs_mul]
  exact Nat.le_mul_of_pos_right _ (Int.natAbs_pos.mpr h)
omit [TbT] in
theorem fN_le {n d : Int} (h : d ≠ 0) : (fN n d).natAbs ≤ n.natAbs := by
  have := natAbs_le_mul (a := fN n d) (fg_ne (n := n) h)
  rwa [fN_mul] at this
omit [TbT] in
theorem fD_le {n d : Int} (h : d ≠ 0) : (fD n d).natAbs ≤ d.natAbs := by
  have := natAbs_le_mul (a := fD n d) (fg_ne (n := n) h)
  rwa [fD_mul] at this
omit [TbT] in
theorem fg_gcd {n d : Int} : (fg n d).natAbs = Int.gcd n d := by
  unfold fg
  split <;> omega
omit [TbT] in
theorem f_gcd {n d : Int} (h : d ≠ 0) : Int.gcd (fN n d) (fD n d) = 1 := by
  have e : Int.gcd (fN n d * fg n d) (fD n d * fg n d) = Int.gcd (fN n d) (fD n d) * (fg n d).natAbs := Int.gcd_mul_right ..
  rw [fN_mul, fD_mul, fg_gcd] at e
  have p : 0 < Int.gcd n d := by have := gcd_pos (n := n) h; omega
  have : Int.gcd (fN n d) (fD n d) * Int.gcd n d = 1 * Int.gcd n d := by rw [← e, Nat.one_mul]
  exact Nat.eq_of_mul_eq_mul_right p this
omit [TbT] in
/-- Euclid's step -/
theorem gcd_turn (x y : Nat) : Nat.gcd y (x % y) = Nat.gcd x y := by
  rw [Nat.gcd_comm x y, Nat.gcd_rec y x, Nat.gcd_comm]
omit [TbT] in
theorem natAbs_if (a : Int) : (if a < 0 then -a else a) = (a.natAbs : Int) := by
  split <;> omega
/-- a fraction as data -/
abbrev fr (n d : Int) : D := .tup [.int n, .int d]
end TG

namespace TG
open PySem PySem.Spec PyProof.Rows L2
variable [TbT]
omit [TbT] in
theorem mul_ne {a b : Int} (h : a ≠ 0) (k : b ≠ 0) : a * b ≠ 0 := Int.mul_ne_zero h k
omit [TbT] in
theorem Sz.mulE {m n : Nat} {x y : Int} (h : Sz m x) (k : Sz n y) (hm : 0 < m := by decide) (hn : 0 < n := by decide) (l : m + n ≤ 1000000 := by decide) : CMulW x y := h.mulW k hm hn l
/-- a fraction in lowest terms, small -/
structure FrOk (k : Nat) (p q : Int) : Prop where
  pos : 0 < q
  one : Int.gcd p q = 1
  num : Sz k p
  den : Sz k q
omit [TbT] in
theorem FrOk.ne {k : Nat} {p q : Int} (h : FrOk k p q) : q ≠ 0 := Int.ne_of_gt h.pos
omit [TbT] in
theorem FrOk.mono {k j : Nat} {p q : Int} (h : FrOk k p q) (l : k ≤ j) : FrOk j p q := ⟨h.pos, h.one, h.num.mono l, h.den.mono l⟩
omit [TbT] in
theorem fr_ok {k : Nat} {n d : Int} (h : d ≠ 0) (hn : Sz k n) (hd : Sz k d) : FrOk k (fN n d) (fD n d) := ⟨fD_pos h, f_gcd h, hn.le (fN_le h), hd.le (fD_le h)⟩
omit [TbT] in
theorem fr_add {k j : Nat} {a b c d : Int} (h1 : FrOk k a b) (h2 : FrOk j c d) : FrOk (k + j + 1) (fN (a * d + c * b) (b * d)) (fD (a * d + c * b) (b * d)) :=
  fr_ok (mul_ne h1.ne h2.ne) (((h1.num.mul h2.den).add (h2.num.mul h1.den)).mono (by omega)) ((h1.den.mul h2.den).mono (by omega))
omit [TbT] in
theorem fr_sub {k j : Nat} {a b c d : Int} (h1 : FrOk k a b) (h2 : FrOk j c d) : FrOk (k + j + 1) (fN (a * d - c * b) (b * d)) (fD (a * d - c * b) (b * d)) :=
  fr_ok (mul_ne h1.ne h2.ne) (((h1.num.mul h2.den).sub (h2.num.mul h1.den)).mono (by omega)) ((h1.den.mul h2.den).mono (by omega))
omit [TbT] in
theorem fr_mul {k j : Nat} {a b c d : Int} (h1 : FrOk k a b) (h2 : FrOk j c d) : FrOk (k + j) (fN (a * c) (b * d)) (fD (a * c) (b * d)) :=
  fr_ok (mul_ne h1.ne h2.ne) (h1.num.mul h2.num) (h1.den.mul h2.den)
omit [TbT] in
theorem fg_one {n : Int} : fg n 1 = 1 := by
  unfold fg
  rw [if_neg (by decide), Int.gcd_one]; rfl
omit [TbT] in
theorem fN_one {n : Int} : fN n 1 = n := by unfold fN; rw [fg_one, Int.fdiv_one]
omit [TbT] in
theorem fD_one {n : Int} : fD n 1 = 1 := by unfold fD; rw [fg_one]; rfl
omit [TbT] in
theorem fr_unique {a b c d : Int} (hb : 0 < b) (hd : 0 < d) (h1 : Int.gcd a b = 1) (h2 : Int.gcd c d = 1) (e : a * d = c * b) : a = c ∧ b = d := by
  have k1 : b ∣ d := by
    have : b ∣ a * d := ⟨c, by rw [e, Int.mul_comm]⟩
    have q := Int.dvd_gcd_mul_iff_dvd_mul.mpr this
    rw [Int.gcd_comm, h1] at q
    simpa using q
  have k2 : d ∣ b := by
    have : d ∣ c * b := ⟨a, by rw [← e, Int.mul_comm]⟩
    have q := Int.dvd_gcd_mul_iff_dvd_mul.mpr this
    rw [Int.gcd_comm, h2] at q
    simpa using q
  have eb : b = d := Int.le_antisymm (Int.le_of_dvd hd k1) (Int.le_of_dvd hb k2)
  subst eb
  exact ⟨Int.eq_of_mul_eq_mul_right (Int.ne_of_gt hb) e, rfl⟩
omit [TbT] in
/-- the value, by cross products -/
theorem fr_eq {p q n d : Int} (hq : 0 < q) (h1 : Int.gcd p q = 1) (hd : d ≠ 0) (e : p * d = n * q) : fN n d = p ∧ fD n d = q := by
  have k := @fN_cross n d
  refine fr_unique (fD_pos hd) hq (f_gcd hd) h1 ?_
  refine Int.eq_of_mul_eq_mul_right hd ?_
  calc fN n d * q * d = (fN n d * d) * q := by rw [Int.mul_assoc, Int.mul_comm q, ← Int.mul_assoc]
    _ = n * fD n d * q := by rw [k]
    _ = n * q * fD n d := by rw [Int.mul_assoc, Int.mul_comm (fD n d), ← Int.mul_assoc]
    _ = p * d * fD n d := by rw [e]
    _ = p * fD n d * d := by rw [Int.mul_assoc, Int.mul_comm d, ← Int.mul_assoc]
omit [TbT] in
theorem fr_self {p q : Int} (hq : 0 < q) (h1 : Int.gcd p q = 1) : fN p q = p ∧ fD p q = q := fr_eq hq h1 (Int.ne_of_gt hq) rfl
omit [TbT] in
theorem fD_whole {m d : Int} (hd : 0 < d) : fN (m * d) d = m ∧ fD (m * d) d = 1 := fr_eq (by decide) (by rw [Int.gcd_one]) (Int.ne_of_gt hd) (by rw [Int.mul_one])
omit [TbT] in
theorem gcd_rest {p q : Int} : Int.gcd (p % q) q = Int.gcd p q := by
  have e : p = p % q + q * (p / q) := by rw [Int.add_comm]; exact (Int.mul_ediv_add_emod p q).symm
  conv => rhs; rw [e]
  exact (Int.gcd_add_mul_left_left q (p % q) (p / q)).symm
omit [TbT] in
/-- ints in a list -/
theorem map_snoc (ns : List Int) (x : Int) : ns.map D.int ++ [D.int x] = (ns ++ [x]).map D.int := by simp
omit [TbT] in
theorem atI_ints {ns : List Int} {k : Nat} (h : k < ns.length) : atI (ns.map D.int) (k : Int) = some (.int (ns.getD k 0)) := by
  refine atI_nat ?_
  rw [List.getElem?_map, List.getElem?_eq_getElem h]
  simp [List.getD, h]
omit [TbT] in
theorem getD_range {ns : List Int} {k : Nat} {lo hi : Int} (hn : ∀ n ∈ ns, lo ≤ n ∧ n < hi) (h : k < ns.length) : lo ≤ ns.getD k 0 ∧ ns.getD k 0 < hi := by
  have : ns.getD k 0 = ns[k] := by simp [List.getD, h]
  rw [this]
  exact hn _ (List.getElem_mem h)
omit [TbT] in
theorem arith_pre {k j : Nat} {a b c d : Int} (h1 : FrOk k a b) (h2 : FrOk j c d) (hk : k ≤ 2000) (hj : j ≤ 2000) : b ≠ 0 ∧ d ≠ 0 ∧ Sz 2000 a ∧ Sz 2000 b ∧ Sz 2000 c ∧ Sz 2000 d :=
  ⟨h1.ne, h2.ne, h1.num.mono hk, h1.den.mono hk, h2.num.mono hj, h2.den.mono hj⟩
omit [TbT] in
theorem atI_lit {ns : List Int} (k : Nat) {i : Int} (e : i = (k : Int)) (h : k < ns.length) : atI (ns.map D.int) i = some (.int (ns.getD k 0)) := by
  subst e; exact atI_ints h
omit [TbT] in
theorem set_self {ρ : List O} {i : Nat} {o : O} (h : ρ[i]? = some o) : ρ.set i o = ρ := by
  apply List.ext_getElem?
  intro j
  rw [List.getElem?_set]
  by_cases e : i = j
  · subst e
    rw [if_pos rfl, if_pos (List.getElem?_eq_some_iff.mp h).1, h]
  · rw [if_neg e]
/-- the data in slot i, told by P alone -/
theorem ws_abs {X : Cx} {ex : Exs} {ρ : List O} {sts : List Stmt} {W : Eds} {d : D} (i : Nat) (P : D → Prop) (hr : ρ[i]? = some (.va d)) (hp : P d) (h : ∀ d', P d' → WSs X ex sts (ρ.set i (.va d')) W) : WSs X ex sts ρ W := by
  have := h d hp
  rwa [set_self hr] at this
theorem ws_cutU {X : Cx} {ex : Exs} {ρ : List O} {st : Stmt} {rest : List Stmt} {W : Eds} (M : List O → Prop) (h : WS X ex st ρ { W with nx := Up M }) (k : ∀ ρ', M ρ' → WSs X ex rest ρ' W) : WSs X ex (st :: rest) ρ W :=
  ws_cut (Up M) h fun ρ' ⟨_, l, m⟩ => ws_le l (k _ m)
end TG
/-! Exceptions over plain data: raise, defs that raise, try .. except X (as e). -/
namespace TG
open PySem PySem.Spec PyProof.Rows L2
variable [TbT]

/-- an own exception class of the text, without an __init__ of its own -/
structure ExcT (K : PySem.W.Frag) (mg : Str → Option Value) (n : Str) : Prop where
  ex : ∃ C, mg n = some (.ref C) ∧ PySem.W.excIn K C [.type "ValueError", .type "Exception", .type "BaseException", .type "object"] "ValueError.__new__" = true ∧ PySem.W.keepIn K (.ref C) = true ∧
    PySem.W.subIn K (.ref C) (.type "BaseException") = some true ∧ PySem.W.typeIn K (.ref C) = some (.type "type") ∧ ExcC K C
/-- a raised error of class n is (is not) one of class m -/
structure SubT (K : PySem.W.Frag) (mg : Str → Option Value) (n m : Str) (b : Bool) : Prop where
  ex : ∃ D, mg m = some (.ref D) ∧ ∀ C, mg n = some (.ref C) → PySem.W.exmOne K (.ref C) (.ref D) = some b ∧ PySem.W.kitOne K (.ref C) (.ref D) = some b
/-- .. of a built-in class -/
structure SubB (K : PySem.W.Frag) (mg : Str → Option Value) (n : Str) (t : String) (b : Bool) : Prop where
  ex : ∀ C, mg n = some (.ref C) → PySem.W.kitOne K (.ref C) (.type t) = some b
/-- a def's promise over data, exceptions by their names -/
structure SpcX where
  S : List D → (O → Prop) → (Str → Prop) → Prop
  mono : ∀ ds (Q Q' : O → Prop) (E E' : Str → Prop), (∀ o, Q o → Q' o) → (∀ n, E n → E' n) → S ds Q E → S ds Q' E'
def spOfX (K : PySem.W.Frag) (mg : Str → Option Value) (S : SpcX) : Sp := fun vs H Q E => Tb H ∧ ∃ ds G, Ex G H ∧ RepL K G vs ds ∧ S.S ds (fun o => ∀ v G' H', Grow G H G' H' → OOk K H G' H' o v → Q v H') fun n => ∀ C G' H', mg n = some (.ref C) → Grow G H G' H' → E (.ref C) none H'
/-- a promise of a def that does not raise, as one of a def that might -/
def Spc.x (S : Spc) : SpcX := ⟨fun ds Q _ => S.S ds Q, fun ds Q Q' _ _ k _ h => S.mono ds Q Q' k h⟩

section
variable {X : Cx} {ex : Exs} {ρ : List O} {e : Expr} {es : List Expr} {st : Stmt} {rest : List Stmt} {W : Eds} {d : D} {ds dds : List D} {pos p p2 npos : Pos} {i k : Nat} {x n : Str}
/-- raise X('..') -/
theorem ws_raise {m : Str} {j : Nat} (T : ExcT X.K X.mg x) (h : ex x ρ) (hc : X.calm = true := by rfl) (hg : Gl X x := by rfl) (hdb : (x == ("__debug__" : Str)) = false := by decide) :
    WS X ex (.Raise (some (.Call (.Name x p) [.Constant (.str m) j p2] [] npos)) none pos) ρ W := ⟨fun E σ G H S => by
  obtain ⟨C, g1, g2, g3, g4, g5, _⟩ := T.ex
  exact of_ps (ps_raise hc takes_acc (pmk_own PySem.F.excBase_ValueError g2 g1 g3 (raises_own g4 g5) hg hdb)) (S.xo x ρ h C g1 σ G H S.toSOk (Ex.refl _))⟩

/-! ### calls that may raise -/
structure CalX (P : Program) (w : World) (K : PySem.W.Frag) (mg : Str → Option Value) (base : Heap) (k : Nat) (x : Str) (S : SpcX) (dds : List D) : Prop where
  ex : ∃ (f : Addr) (fd : FuncData) (ps : List Str) (dvs : List V) (dus : List Value), FnOk P w K mg base (L2.CX P w) k f fd ps (spOfX K mg S) ∧ mg x = some (.ref f) ∧ PySem.W.keepIn K (.ref f) = true ∧ Binds K fd ps dus ∧ Vals dvs dus ∧ ∀ G, RepL K G dvs dds
theorem run_fnSD {CX : CXT} {f : Addr} {fd : FuncData} {ps : List Str} {sp : Sp} {σ : L2.St} {E : XK} {pins : List (Addr × Obj)} {H : Hp} {s : Shared} {Q : VK} {us dus : List Value} {vs dvs : List V} (F : FnOk X.prog X.w X.K X.mg X.base CX k f fd ps sp) (hr : Room k X.A) (hb : Binds X.K fd ps dus) (hd : Vals dvs dus) (hx : PassesAt CX X σ E)
    (I : Inv X pins σ H s) (r : Vals vs us) (h : sp (vs ++ dvs) H Q E) : wpAny (model X.prog X.w) X.A (call (.ref f) us) (EP X pins σ Q) X.xe s := by
  have r2 : Vals (vs ++ dvs) (us ++ dus) := r.append hd
  have hl : (us ++ dus).length = ps.length := by rw [← r2.length]; exact F.len _ _ _ _ h
  refine wpAny_call (codeAny_mono (F.run X.A X.stack s H ⟨us, []⟩ (us ++ dus) (vs ++ dvs) Q E hr I.env0 (hb s us I.kIn hl) r2 h) fun r s' hq => ?_)
  cases r with
  | error e => exact hx pins H s e s' I hq
  | ok fl =>
    cases fl with
    | ret u => exact I.after hq
    | next => exact False.elim hq
    | brk => exact False.elim hq
    | cont => exact False.elim hq
theorem eo_calX {P : O → Prop} {S : SpcX} (C : CalX X.prog X.w X.K X.mg X.base k x S dds) (hr : Room k X.A) (ha : EA X ex (e :: es) ρ ds) (hq : S.S (ds ++ dds) P fun n => ex n ρ) (hg : Gl X x := by rfl) (hdb : (x == ("__debug__" : Str)) = false := by decide) (he : starEach (e :: es) X.env = (false, eval e X.env) :: starEach es X.env := by rfl) (hpl : (backTo pos (starEach es X.env)).any (·.1) = false := by rfl) :
    EO X ex (.Call (.Name x p) (e :: es) [] pos) ρ P := ⟨fun E σ G H Sk => by
  obtain ⟨f, fd, ps, dvs, dus, F, hm, hk, hb, hv, hd⟩ := C.ex
  intro pins s I
  refine wpAny_Call_Name_kw (ld_glob I hg hm ?_ hdb)
  refine PySem.W.callWith_K (h₀ := X.base) I.ok.mod.kin hk (thn (ha E σ G H Sk pos pins s I) fun us s1 ⟨vs, H1, I1, r, G1, g1, r1⟩ => ⟨I1.kIn, ?_⟩) he hpl
  refine run_fnSD F hr hb hv (passAt takes_acc σ) I1 r ?_
  exact ⟨g1.tb Sk.tb, ds ++ dds, G1, g1.gh, r1.append (hd G1), S.mono _ _ _ _ _ (fun o hP v G2 H2 g2 q => ⟨o, G2, g1.trans g2, q.h0 g1.h, hP⟩) (fun n hn C G2 H2 hC g2 => Sk.xo n ρ hn C hC σ G2 H2 (Sk.toSOk.grow (g1.trans g2)) (g1.trans g2).g) hq⟩⟩
/-- a def that does not raise may be called so, too -/
theorem eo_cal0X {P : O → Prop} {S : SpcX} (C : CalX X.prog X.w X.K X.mg X.base k x S dds) (hr : Room k X.A) (hq : S.S dds P fun n => ex n ρ) (hg : Gl X x := by rfl) (hdb : (x == ("__debug__" : Str)) = false := by decide) :
    EO X ex (.Call (.Name x p) [] [] pos) ρ P := ⟨fun E σ G H Sk => by
  obtain ⟨f, fd, ps, dvs, dus, F, hm, hk, hb, hv, hd⟩ := C.ex
  intro pins s I
  refine wpAny_Call_Name_kw (ld_glob I hg hm ?_ hdb)
  refine PySem.W.callWith_K0 I.kIn hk (run_fnSD (us := []) (vs := []) F hr hb hv (passAt takes_acc σ) I .nil ?_)
  exact ⟨Sk.tb, dds, G, Sk.gh, hd G, S.mono _ _ _ _ _ (fun o hP v G2 H2 g2 q => ⟨o, G2, g2, q, hP⟩) (fun n hn C G2 H2 hC g2 => Sk.xo n ρ hn C hC σ G2 H2 (Sk.toSOk.grow g2) g2.g) hq⟩⟩

/-! ### try -/
theorem lift_mono {K : PySem.W.Frag} {E : Hp × Hp} {G G1 H : Hp} {σ : L2.St} {sts : List Stmt} {Y : Cx} (e : Ex G G1) (h : tSemSs Y sts (lift K E G1 W) σ H) : tSemSs Y sts (lift K E G W) σ H :=
  tSemSs_mono h (fun _ _ => up_ex e) (fun _ _ h => h) (fun _ _ => up_ex e) (fun _ _ => up_ex e)
/-- how a suite's context comes -/
abbrev Suite (X : Cx) (a : Addr) (oe : Obj) (pn : List (Addr × Obj)) : Cx := X.suite a ((a, oe) :: pn)
/-- try: body, except c: suite. exb: the errors that the body may raise; each of them is caught (what the suite wants), or passed on -/
theorem ws_try {c : Str} {exb : Exs} {b₀ : Stmt} {suite body : List Stmt} {np pos' : Pos} {Cc : Addr} (hgc : X.mg c = some (.ref Cc))
    (hbody : ∀ (pn : List (Addr × Obj)) (xe : Value → Shared → Prop), PassesOwn (model X.prog X.w) X.A X.env xe → WSs (X.tr pn xe) exb body ρ W)
    (hx : ∀ n ρ', exb n ρ' → ∃ b, (∀ C, X.mg n = some (.ref C) → PySem.W.exmOne X.K (.ref C) (.ref Cc) = some b) ∧ (b = true → ∀ C, X.mg n = some (.ref C) → ∀ (a : Addr) (oe : Obj) (pn : List (Addr × Obj)), Zc (.ref C) none oe → (∃ vs, oe.data = .fields vs) → WSs (Suite X a oe pn) noX (b₀ :: suite) ρ' W) ∧ (b = false → ex n ρ'))
    (hs : X.stack = X.env :: X.outer := by rfl) (hf : X.env.frame = some X.env.locals := by rfl) (hg : Gl X c := by rfl) (hdb : (c == ("__debug__" : Str)) = false := by decide) :
    WS X ex (.Try body [.ExceptHandler (some (.Name c np)) none (b₀ :: suite) pos'] [] [] pos) ρ W := ⟨fun E σ G H S => by
  refine of_ps (ps_try_only (Wout := WA X) (tb := fun WX D σ H => ∀ (pn : List (Addr × Obj)) (xe : Value → Shared → Prop), Takes (X.tr pn xe) WX → PassesOwn (model X.prog X.w) X.A X.env xe → tSemSs (X.tr pn xe) body D σ H)
    (ts := fun a cls d D σ H => ∀ (oe : Obj) (pn : List (Addr × Obj)), Zc cls d oe → (∃ vs, oe.data = .fields vs) → tSemSs (Suite X a oe pn) (b₀ :: suite) D σ H) hs hf ⟨hg, hdb, .inl hgc⟩ takes_acc
    (fun WX pn xe tk po => ⟨fun pins s σ H D I h => h pn xe tk po pins s I⟩) (fun a oe cls d pn hz hv => ⟨fun pins s σ H D I h => h oe pn hz hv pins s I⟩)) fun pn xe tk po => ?_
  refine hbody pn xe po E σ G H ⟨S.toSOk, fun n ρ' hn C hC σ' G' H' S' e => ⟨_, tk, ?_⟩⟩
  obtain ⟨b, h1, h2, h3⟩ := hx n ρ' hn
  refine ⟨b, h1 C hC, fun hb a ha oe pn' hz hv => ?_, fun hb => S.xo n ρ' (h3 hb) C hC σ' G' H' S' e⟩
  exact lift_mono e (h2 hb C hC a oe pn' hz hv E σ' G' H' (SOk.nox (X := Suite X a oe pn') S'))⟩
/-- the name's slot is empty behind the suite -/
def Eds.gone (W : Eds) (i : Nat) : Eds := { nx := fun ρ => W.nx (ρ.set i .un), rt := W.rt, bk := fun ρ => W.bk (ρ.set i .un), ct := fun ρ => W.ct (ρ.set i .un) }
theorem SOk.gone {K : PySem.W.Frag} {E : Hp × Hp} {σ : L2.St} {G H : Hp} (S : SOk K E ρ σ G H) (i : Nat) : SOk K E (ρ.set i .un) (σ.set i none) G H := by
  refine ⟨S.g0, S.gh, S.h0, S.fr, by rw [List.length_set, List.length_set]; exact S.len, fun j u e => ?_, fun j k b hj hk => ?_, S.tb⟩
  · rcases set_at e with ⟨hj, hu, l⟩ | ⟨ne, e'⟩
    · exact .inl hu
    · rcases S.at' j u e' with h | ⟨v, s, q⟩
      · exact .inl h
      · exact .inr ⟨v, by rw [List.getElem?_set_ne ne]; exact s, q⟩
  · have back : ∀ j, Own (ρ.set i .un) (σ.set i none) j b → Own ρ σ j b := fun j ⟨⟨o, e, p⟩, s⟩ => by
      rcases set_at e with ⟨hj, ho, l⟩ | ⟨ne, e'⟩
      · subst hj ho; exact absurd p Bool.false_ne_true
      · rw [List.getElem?_set_ne ne] at s
        exact ⟨⟨o, e', p⟩, s⟩
    exact S.apart j k b (back j hj) (back k hk)
theorem lift_gone {K : PySem.W.Frag} {E : Hp × Hp} {G : Hp} {i : Nat} {σ : L2.St} {H : Hp} {sts : List Stmt} {Y : Cx} (h : tSemSs Y sts (lift K E G (W.gone i)) σ H) :
    tSemSs Y sts { nx := fun σ' H' => (lift K E G W).nx (σ'.set i none) H', rt := (lift K E G W).rt, bk := fun σ' H' => (lift K E G W).bk (σ'.set i none) H', ct := fun σ' H' => (lift K E G W).ct (σ'.set i none) H' } σ H :=
  tSemSs_mono h (fun _ _ ⟨ρ', G', S, e, q⟩ => ⟨_, G', S.gone i, e, q⟩) (fun _ _ h => h) (fun _ _ ⟨ρ', G', S, e, q⟩ => ⟨_, G', S.gone i, e, q⟩) (fun _ _ ⟨ρ', G', S, e, q⟩ => ⟨_, G', S.gone i, e, q⟩)
/-- try: body, except c as y: suite (y in slot i) -/
theorem ws_tryAs {c y : Str} {exb : Exs} {b₀ : Stmt} {suite body : List Stmt} {np pos' : Pos} {Cc : Addr} (i : Nat) (hgc : X.mg c = some (.ref Cc)) (hNd : X.N.Nodup)
    (hbody : ∀ (pn : List (Addr × Obj)) (xe : Value → Shared → Prop), PassesOwn (model X.prog X.w) X.A X.env xe → WSs (X.tr pn xe) exb body ρ W)
    (hx : ∀ n ρ', exb n ρ' → ∃ b, (∀ C, X.mg n = some (.ref C) → PySem.W.exmOne X.K (.ref C) (.ref Cc) = some b) ∧ (b = true → ∀ C, X.mg n = some (.ref C) → ∀ (a : Addr) (oe : Obj) (pn : List (Addr × Obj)), Zc (.ref C) none oe → (∃ vs, oe.data = .fields vs) → WSs (Suite X a oe pn) noX (b₀ :: suite) (ρ'.set i (.rf a)) (W.gone i)) ∧ (b = false → ex n ρ'))
    (hs : X.stack = X.env :: X.outer := by rfl) (hf : X.env.frame = some X.env.locals := by rfl) (hg : Gl X c := by rfl) (hdb : (c == ("__debug__" : Str)) = false := by decide) (hi : X.N[i]? = some y := by rfl) (hln : X.env.kindOf y = some .local := by rfl) :
    WS X ex (.Try body [.ExceptHandler (some (.Name c np)) (some y) (b₀ :: suite) pos'] [] [] pos) ρ W := ⟨fun E σ G H S => by
  refine of_ps (ps_try_as (Wout := WA X) (tb := fun WX D σ H => ∀ (pn : List (Addr × Obj)) (xe : Value → Shared → Prop), Takes (X.tr pn xe) WX → PassesOwn (model X.prog X.w) X.A X.env xe → tSemSs (X.tr pn xe) body D σ H)
    (ts := fun a cls d D σ H => ∀ (oe : Obj) (pn : List (Addr × Obj)), Zc cls d oe → (∃ vs, oe.data = .fields vs) → tSemSs (Suite X a oe pn) (b₀ :: suite) D σ H) hs hf hNd hi hln ⟨hg, hdb, .inl hgc⟩ takes_acc
    (fun WX pn xe tk po => ⟨fun pins s σ H D I h => h pn xe tk po pins s I⟩) (fun a oe cls d pn hz hv => ⟨fun pins s σ H D I h => h oe pn hz hv pins s I⟩)) fun pn xe tk po => ?_
  refine hbody pn xe po E σ G H ⟨S.toSOk, fun n ρ' hn C hC σ' G' H' S' e => ⟨_, tk, ?_⟩⟩
  obtain ⟨b, h1, h2, h3⟩ := hx n ρ' hn
  refine ⟨b, h1 C hC, fun hb a ha oe pn' hz hv => ?_, fun hb => S.xo n ρ' (h3 hb) C hC σ' G' H' S' e⟩
  refine lift_gone (lift_mono e (h2 hb C hC a oe pn' hz hv E _ G' H' (SOk.nox (X := Suite X a oe pn') ?_)))
  exact S'.set i (o := .rf a) rfl fun h => absurd h Bool.false_ne_true⟩
/-- isinstance(e, c) in an except suite, e the exception that was caught, c an own class -/
theorem ee_isE {Y : Cx} {a : Addr} {oe : Obj} {pn : List (Addr × Obj)} {c : Str} {b : Bool} {z : Str} {zp cp : Pos} {C Cc : Addr} (i : Nat) (hEC : ExcC Y.K C) (hz : Zc (.ref C) none oe) (hv : ∃ vs, oe.data = .fields vs) (hr : ρ[i]? = some (.rf a)) (hC : Y.mg c = some (.ref Cc)) (hk : PySem.W.kitOne Y.K (.ref C) (.ref Cc) = some b)
    (hm : Y.mg "isinstance" = none) (hg : Gl (Suite Y a oe pn) "isinstance" := by rfl) (hgc : Gl (Suite Y a oe pn) c := by rfl) (hN : Y.N[i]? = some z := by rfl) (hvz : Vis Y.env.scope z := by first | exact Or.inl rfl | exact Or.inr (Or.inl rfl) | exact Or.inr (Or.inr rfl)) (hd : (z == ("__debug__" : Str)) = false := by decide) (hcd : (z == ("__classdict__" : Str)) = false := by decide) (hdc : (c == ("__debug__" : Str)) = false := by decide)
    (he : starEach [.Name z zp, .Name c cp] (Suite Y a oe pn).env = (false, eval (.Name z zp) (Suite Y a oe pn).env) :: starEach [.Name c cp] (Suite Y a oe pn).env := by rfl) (he2 : starEach [.Name c cp] (Suite Y a oe pn).env = (false, eval (.Name c cp) (Suite Y a oe pn).env) :: starEach [] (Suite Y a oe pn).env := by rfl)
    (hpl : (backTo pos (starEach [.Name c cp] (Suite Y a oe pn).env)).any (·.1) = false := by rfl) : EE (Suite Y a oe pn) ex (.Call (.Name "isinstance" p) [.Name z zp, .Name c cp] [] pos) ρ (.bl b) := ⟨fun E σ G H S => by
  rcases S.at' i _ hr with h | ⟨v, s1, q⟩
  · cases h
  have q' : v = .ref a := q
  subst q'
  refine of_pe (pe_callB (call_isE hEC hz hv) hg hm (by decide +kernel) (pa_cons (pe_var (X := Suite Y a oe pn) hN hvz hd hcd) (pa_cons (pe_glob (X := Suite Y a oe pn) (v := .ref Cc) (u := .ref Cc) hgc hC rfl hdc) pa_nil he2) he) (by decide) (by decide) he hpl) ?_
  exact ⟨.ref a, s1, .ref Cc, .ref Cc, b, rfl, fun u h => h, hk, G, .refl S.gh, .bl b⟩⟩
/-- isinstance(e, ValueError) -/
theorem ee_isEb {Y : Cx} {a : Addr} {oe : Obj} {pn : List (Addr × Obj)} {t : String} {b : Bool} {z : Str} {zp cp : Pos} {C : Addr} (i : Nat) (hEC : ExcC Y.K C) (hz : Zc (.ref C) none oe) (hv : ∃ vs, oe.data = .fields vs) (hr : ρ[i]? = some (.rf a)) (hC : Y.mg x = none) (hbt : bootBuiltins x = some (.type t)) (hk : PySem.W.kitOne Y.K (.ref C) (.type t) = some b)
    (hm : Y.mg "isinstance" = none) (hg : Gl (Suite Y a oe pn) "isinstance" := by rfl) (hgc : Gl (Suite Y a oe pn) x := by rfl) (hN : Y.N[i]? = some z := by rfl) (hvz : Vis Y.env.scope z := by first | exact Or.inl rfl | exact Or.inr (Or.inl rfl) | exact Or.inr (Or.inr rfl)) (hd : (z == ("__debug__" : Str)) = false := by decide) (hcd : (z == ("__classdict__" : Str)) = false := by decide) (hdc : (x == ("__debug__" : Str)) = false := by decide) (hnn : x ≠ "__name__" := by decide)
    (he : starEach [.Name z zp, .Name x cp] (Suite Y a oe pn).env = (false, eval (.Name z zp) (Suite Y a oe pn).env) :: starEach [.Name x cp] (Suite Y a oe pn).env := by rfl) (he2 : starEach [.Name x cp] (Suite Y a oe pn).env = (false, eval (.Name x cp) (Suite Y a oe pn).env) :: starEach [] (Suite Y a oe pn).env := by rfl)
    (hpl : (backTo pos (starEach [.Name x cp] (Suite Y a oe pn).env)).any (·.1) = false := by rfl) : EE (Suite Y a oe pn) ex (.Call (.Name "isinstance" p) [.Name z zp, .Name x cp] [] pos) ρ (.bl b) := ⟨fun E σ G H S => by
  rcases S.at' i _ hr with h | ⟨v, s1, q⟩
  · cases h
  have q' : v = .ref a := q
  subst q'
  refine of_pe (pe_callB (call_isE hEC hz hv) hg hm (by decide +kernel) (pa_cons (pe_var (X := Suite Y a oe pn) hN hvz hd hcd) (pa_cons (pe_bltn (X := Suite Y a oe pn) (v := .ty t) (u := .type t) hgc hC hbt rfl hnn hdc) pa_nil he2) he) (by decide) (by decide) he hpl) ?_
  exact ⟨.ref a, s1, .ty t, .type t, b, rfl, fun u h => h, hk, G, .refl S.gh, .bl b⟩⟩
theorem ee_isX {Y : Cx} {a : Addr} {oe : Obj} {pn : List (Addr × Obj)} {c n z : Str} {b : Bool} {zp cp : Pos} {C : Addr} (i : Nat) (T : ExcT Y.K Y.mg n) (Sb : SubT Y.K Y.mg n c b) (hC : Y.mg n = some (.ref C)) (hz : Zc (.ref C) none oe) (hv : ∃ vs, oe.data = .fields vs) (hr : ρ[i]? = some (.rf a))
    (hm : Y.mg "isinstance" = none) (hg : Gl (Suite Y a oe pn) "isinstance" := by rfl) (hgc : Gl (Suite Y a oe pn) c := by rfl) (hN : Y.N[i]? = some z := by rfl) (hvz : Vis Y.env.scope z := by first | exact Or.inl rfl | exact Or.inr (Or.inl rfl) | exact Or.inr (Or.inr rfl)) (hd : (z == ("__debug__" : Str)) = false := by decide) (hcd : (z == ("__classdict__" : Str)) = false := by decide) (hdc : (c == ("__debug__" : Str)) = false := by decide)
    (he : starEach [.Name z zp, .Name c cp] (Suite Y a oe pn).env = (false, eval (.Name z zp) (Suite Y a oe pn).env) :: starEach [.Name c cp] (Suite Y a oe pn).env := by rfl) (he2 : starEach [.Name c cp] (Suite Y a oe pn).env = (false, eval (.Name c cp) (Suite Y a oe pn).env) :: starEach [] (Suite Y a oe pn).env := by rfl)
    (hpl : (backTo pos (starEach [.Name c cp] (Suite Y a oe pn).env)).any (·.1) = false := by rfl) : EE (Suite Y a oe pn) ex (.Call (.Name "isinstance" p) [.Name z zp, .Name c cp] [] pos) ρ (.bl b) := by
  obtain ⟨C', hC', _, _, _, _, EC⟩ := T.ex
  rw [hC] at hC'; cases hC'
  obtain ⟨D, hD, hk⟩ := Sb.ex
  exact ee_isE i EC hz hv hr hD (hk C hC).2 hm hg hgc hN hvz hd hcd hdc he he2 hpl
theorem ee_isXb {Y : Cx} {a : Addr} {oe : Obj} {pn : List (Addr × Obj)} {t : String} {n z : Str} {b : Bool} {zp cp : Pos} {C : Addr} (i : Nat) (T : ExcT Y.K Y.mg n) (Sb : SubB Y.K Y.mg n t b) (hC : Y.mg n = some (.ref C)) (hz : Zc (.ref C) none oe) (hv : ∃ vs, oe.data = .fields vs) (hr : ρ[i]? = some (.rf a)) (hx : Y.mg x = none) (hbt : bootBuiltins x = some (.type t))
    (hm : Y.mg "isinstance" = none) (hg : Gl (Suite Y a oe pn) "isinstance" := by rfl) (hgc : Gl (Suite Y a oe pn) x := by rfl) (hN : Y.N[i]? = some z := by rfl) (hvz : Vis Y.env.scope z := by first | exact Or.inl rfl | exact Or.inr (Or.inl rfl) | exact Or.inr (Or.inr rfl)) (hd : (z == ("__debug__" : Str)) = false := by decide) (hcd : (z == ("__classdict__" : Str)) = false := by decide) (hdc : (x == ("__debug__" : Str)) = false := by decide) (hnn : x ≠ "__name__" := by decide)
    (he : starEach [.Name z zp, .Name x cp] (Suite Y a oe pn).env = (false, eval (.Name z zp) (Suite Y a oe pn).env) :: starEach [.Name x cp] (Suite Y a oe pn).env := by rfl) (he2 : starEach [.Name x cp] (Suite Y a oe pn).env = (false, eval (.Name x cp) (Suite Y a oe pn).env) :: starEach [] (Suite Y a oe pn).env := by rfl)
    (hpl : (backTo pos (starEach [.Name x cp] (Suite Y a oe pn).env)).any (·.1) = false := by rfl) : EE (Suite Y a oe pn) ex (.Call (.Name "isinstance" p) [.Name z zp, .Name x cp] [] pos) ρ (.bl b) := by
  obtain ⟨C', hC', _, _, _, _, EC⟩ := T.ex
  rw [hC] at hC'; cases hC'
  exact ee_isEb i EC hz hv hr hx hbt (Sb.ex C hC) hm hg hgc hN hvz hd hcd hdc hnn he he2 hpl
end

/-! ### defs that may raise -/
section
variable {P : Program} {w : World} {K : PySem.W.Frag} {mg : Str → Option Value} {base : Heap} {x : Str} {st : Stmt} {ps : List Str} {dvs : List V} {k : Nat}
theorem DefT.fnX {S : SpcX} (T : DefT K mg x st ps dvs) {N : List Str} (Sc : FnScope N ps (defScope st)) (len : ∀ ds Q E, S.S ds Q E → ds.length = ps.length)
    (hbody : ∀ (f : Addr) (cdv : Value) (A : Around) (outer : List Env) (s : Shared) (H : Hp) (E : XK), Room k (A.deeper (envOfC x (defScope st) s.heap.objs.size f cdv)) → ∀ ds (Q : O → Prop) (EN : Str → Prop), S.S ds Q EN →
      WSs (cxOf (L2.CX P w) P w K mg base N x (defScope st) f cdv A outer s H E) (fun n _ => EN n) (defBody st) (slots N.length ds) { nx := fun _ => Q (.va .non), rt := Q }) :
    ∃ (f : Addr) (fd : FuncData), FnOk P w K mg base (L2.CX P w) (k + 1) f fd ps (spOfX K mg S) ∧ mg x = some (.ref f) ∧ PySem.W.keepIn K (.ref f) = true ∧ ∀ j ≤ dvs.length, ∃ ds, Vals (dvs.drop j) ds ∧ Binds K fd ps ds := by
  obtain ⟨f, fd, F, hm, hb⟩ := T.ex
  refine ⟨f, fd, F.ok Sc (fun vs H Q E ⟨_, ds, G, e, r, h⟩ => ?_) (fun cdv A outer s H vs Q E hr h => ?_), hm, F.kp, hb⟩
  · rw [r.length]; exact len ds _ _ h
  · obtain ⟨tb, ds, G, e, r, h⟩ := h
    refine ⟨tSemSs (cxOf (L2.CX P w) P w K mg base N x (defScope st) f cdv A outer s H E) _, sem_pss, ?_⟩
    refine tSemSs_mono (hbody f cdv A outer s H E hr ds _ _ h (G, H) _ G H ⟨sok_start tb e r, fun n ρ' hn C hC σ' G' H' S' e' => ⟨fun cls d _ H => E cls d H, takes_of rfl rfl rfl rfl, hn C G' H' hC ⟨S'.g0, S'.h0, S'.gh, S'.fr, fun _ => S'.tb⟩⟩⟩) (fun σ' H' ⟨ρ', G', S', x, q⟩ => ?_) (fun v H' ⟨o, G', R, q⟩ => ?_) (fun _ _ ⟨_, _, _, _, q⟩ => q.elim) (fun _ _ ⟨_, _, _, _, q⟩ => q.elim)
    · exact q .non G' H' ⟨S'.g0, S'.h0, S'.gh, S'.fr, fun _ => S'.tb⟩ .non
    · exact q v G' H' ⟨R.g0, R.h0, R.gh, R.fr, fun _ => R.tb⟩ R.ok
theorem calX_of {S : SpcX} (h : ∃ (f : Addr) (fd : FuncData), FnOk P w K mg base (L2.CX P w) k f fd ps (spOfX K mg S) ∧ mg x = some (.ref f) ∧ PySem.W.keepIn K (.ref f) = true ∧ ∀ j ≤ dvs.length, ∃ ds, Vals (dvs.drop j) ds ∧ Binds K fd ps ds)
    (j : Nat) (hj : j ≤ dvs.length) {dds : List D} (hd : ∀ G, RepL K G (dvs.drop j) dds) : CalX P w K mg base k x S dds := by
  obtain ⟨f, fd, F, hm, hk, hb⟩ := h
  obtain ⟨ds, r, b⟩ := hb j hj
  exact ⟨f, fd, ps, dvs.drop j, ds, F, hm, hk, b, r, hd⟩
theorem CalX.mono {S : SpcX} {j : Nat} {dds : List D} (C : CalX P w K mg base k x S dds) (h : k ≤ j) : CalX P w K mg base j x S dds := by
  obtain ⟨f, fd, ps, dvs, dus, F, r⟩ := C.ex
  exact ⟨f, fd, ps, dvs, dus, F.mono h, r⟩
end
omit [TbT] in
/-- a try's body in a def where no exception leaves, a def where some do -/
theorem own_tr {Y : Cx} {pn : List (Addr × Obj)} {xe : Value → Shared → Prop} (po : PassesOwn (model Y.prog Y.w) Y.A Y.env xe) : PassesOwn (model (Y.tr pn xe).prog (Y.tr pn xe).w) (Y.tr pn xe).A (Y.tr pn xe).env (Y.tr pn xe).xe := po
omit [TbT] in
theorem bt_ValueError : bootBuiltins "ValueError" = some (.type "ValueError") := by decide +kernel
/-! ### a test that certainly raises -/
structure EF (X : Cx) (ex : Exs) (e : Expr) (ρ : List O) : Prop where
  run : ∀ (E : Hp × Hp) (σ : L2.St) (G H : Hp), SOx X ex E ρ σ G H → tSemT X e σ H fun _ _ => False
theorem ef_isN {X : Cx} {ex : Exs} {ρ : List O} {a : Expr} {pos pos' : Pos} {k} (h : EO X ex a ρ (fun _ => False)) : EF X ex (.Compare a [.Is] [.Constant .none k pos'] pos) ρ := ⟨fun E σ G H S =>
  of_pt (pt_cmp (pc_isN sem_pe) rfl) (tSem_mono (h E σ G H S) fun v H1 ⟨_, _, _, _, f⟩ => f.elim)⟩
theorem ef_val {X : Cx} {ex : Exs} {ρ : List O} {e : Expr} (h : EO X ex e ρ (fun _ => False)) (he : ∀ whole, isTrue e X.env whole = (do let v ← whole; standAt e.pos; holding [v] (truthy v)) := by intro _; rfl) : EF X ex e ρ := ⟨fun E σ G H S =>
  of_pt (pt_val sem_pe he) (tSem_mono (h E σ G H S) fun v H1 ⟨_, _, _, _, f⟩ => f.elim)⟩
theorem ws_ifF {X : Cx} {ex : Exs} {ρ : List O} {W : Eds} {c : Expr} {A B : List Stmt} {pos : Pos} (hc : EF X ex c ρ) : WS X ex (.If c A B pos) ρ W := ⟨fun E σ G H S =>
  of_ps (ps_if sem_pt sem_pss sem_pss) (tSemT_mono (hc.run E σ G H S) fun b H1 f => f.elim)⟩
/-! ### constants of the module -/
structure ConT (K : PySem.W.Frag) (mg : Str → Option Value) (x : Str) (d : D) : Prop where
  ex : ∃ v u, mg x = some u ∧ RelV v u ∧ ∀ G, Rep K G v d
theorem ee_con {X : Cx} {ex : Exs} {ρ : List O} {d : D} {pos : Pos} {x : Str} (T : ConT X.K X.mg x d) (hg : Gl X x := by rfl) (hd : (x == ("__debug__" : Str)) = false := by decide) : EE X ex (.Name x pos) ρ d := by
  obtain ⟨v, u, hm, r, h⟩ := T.ex
  exact ee_glob hg hm r h hd
omit [TbT] in
theorem small_ok {n : Nat} (h : Nat.ble n 64 = true) : n ≤ sizeLine := Nat.le_trans (Nat.le_of_ble_eq_true h) (by decide)
omit [TbT] in
theorem rep_ktup {K : PySem.W.Frag} {a : Addr} {od : Option Addr} {its : List Value} {n : Nat} {sl : Array (Option Value)} {xs : List V} {ds : List D} (l : K.lookup a = some ⟨.type "tuple", od, .seq its.toArray n, sl⟩) (hs : its.length ≤ sizeLine) (v : Vals xs its) (r : ∀ G, RepL K G xs ds) (G : Hp) : Rep K G (.ref a) (.tup ds) :=
  .tup (.inr ⟨_, its.toArray, n, l, rfl, rfl, by rw [List.size_toArray]; exact hs, v⟩) (r G)
omit [TbT] in
theorem rep_klst {K : PySem.W.Frag} {a : Addr} {its : List Value} {n : Nat} {sl : Array (Option Value)} {xs : List V} {ds : List D} (l : K.lookup a = some ⟨.type "list", none, .seq its.toArray n, sl⟩) (hs : its.length ≤ sizeLine) (v : Vals xs its) (r : ∀ G, RepL K G xs ds) (G : Hp) : Rep K G (.ref a) (.cst ds) :=
  .cst (.inr ⟨_, its.toArray, n, l, rfl, rfl, rfl, by rw [List.size_toArray]; exact hs, v⟩) (r G)
omit [TbT] in
theorem sub_mk {K : PySem.W.Frag} {mg : Str → Option Value} {n m : Str} {b : Bool} {C D : Addr} (h1 : mg n = some (.ref C)) (h2 : mg m = some (.ref D)) (hb : PySem.W.subIn K (.ref D) (.type "BaseException") = some true) (hd : PySem.W.hasDictIn K D = true) (ht : PySem.W.typeIn K (.ref D) = some (.type "type"))
    (hs : PySem.W.subIn K (.ref C) (.ref D) = some b) (hk : PySem.W.kitOne K (.ref C) (.ref D) = some b) : SubT K mg n m b :=
  ⟨D, h2, fun C' h => by rw [h1] at h; cases h; exact ⟨PySem.W.exm_ref hb hd ht hs, hk⟩⟩
omit [TbT] in
theorem subB_mk {K : PySem.W.Frag} {mg : Str → Option Value} {n : Str} {t : String} {b : Bool} {C : Addr} (h1 : mg n = some (.ref C)) (hk : PySem.W.kitOne K (.ref C) (.type t) = some b) : SubB K mg n t b :=
  ⟨fun C' h => by rw [h1] at h; cases h; exact hk⟩
end TG
/-! Tuples and lists as a whole: +, slices, in, list(..), tuple(..); list comprehensions. -/
namespace TG
open PySem PySem.Spec PyProof.Rows L2
variable [TbT]

section
variable {X : Cx} {ex : Exs} {ρ : List O} {e a b : Expr} {es : List Expr} {d d1 d2 : D} {ds : List D} {pos p p2 : Pos} {i : Int} {x : Str}
omit [TbT] in
theorem RepL.nil_of {K : PySem.W.Frag} {G : Hp} {ds : List D} (r : RepL K G [] ds) : ds = [] := by cases r; rfl
omit [TbT] in
theorem RepL.nil_of' {K : PySem.W.Frag} {G : Hp} {vs : List V} (r : RepL K G vs []) : vs = [] := by cases r; rfl
/-! ### tuple + tuple -/
theorem bin_catT {es : List D} (hz : ds.length + es.length ≤ sizeLine) : BinD X (rCatA X.K) (.tup ds) (.tup es) (.tup (ds ++ es)) := fun G H v w Q e r1 r2 q => by
  cases r1 with
  | @tup _ xs1 _ h1 r1 =>
    cases r2 with
    | @tup _ xs2 _ h2 r2 =>
      refine ⟨_, _, _, _, rfl, rfl, e.t h1, e.t h2, by rw [r1.length, r2.length]; exact hz, fun z => ?_, fun _ z => ?_, fun _ _ p hp => ?_⟩
      · subst z
        obtain rfl := r1.nil_of
        exact q _ G H (.refl e) (.tup h2 r2)
      · subst z
        obtain rfl := r2.nil_of
        rw [List.append_nil] at q
        exact q _ G H (.refl e) (.tup h1 r1)
      · have g := Grow.new (u := .tup (xs1 ++ xs2)) e hp
        exact q _ _ _ g (.tup (.inl (.inl upd_same)) ((r1.append r2).mono g.g))
theorem ee_catT {es : List D} (ha : EE X ex a ρ (.tup ds)) (hb : EE X ex b ρ (.tup es)) (hz : ds.length + es.length ≤ sizeLine) : EE X ex (.BinOp a .Add b pos) ρ (.tup (ds ++ es)) := ee_bin op_catA (bin_catT hz) ha hb

/-! ### slices -/
def tSemP (X : Cx) (e : Option Expr) : TO := fun σ H Q => ∀ (pins : List (Addr × Obj)) (s : Shared), Inv X pins σ H s → wpAny (model X.prog X.w) X.A (evalPart e X.env) (fun u s' => ∃ o H', Inv X pins σ H' s' ∧ IsPart u o ∧ Q o H') X.xe s
omit [TbT] in
theorem sem_po {e : Option Expr} : PO X e (tSemP X e) := ⟨fun pins s σ H Q I h => h pins s I⟩
structure EPt (X : Cx) (ex : Exs) (e : Option Expr) (ρ : List O) (o : Option Int) : Prop where
  run : ∀ (E : Hp × Hp) (σ : L2.St) (G H : Hp), SOx X ex E ρ σ G H → tSemP X e σ H fun o' H' => o' = o ∧ ∃ G', Grow G H G' H'
instance {X : Cx} {ex : Exs} {e : Option Expr} {ρ : List O} {o : Option Int} : CoeFun (EPt X ex e ρ o) (fun _ => ∀ (E : Hp × Hp) (σ : L2.St) (G H : Hp), SOx X ex E ρ σ G H → tSemP X e σ H fun o' H' => o' = o ∧ ∃ G', Grow G H G' H') := ⟨EPt.run⟩

theorem ep_none : EPt X ex none ρ none := ⟨fun E σ G H S pins s I => po_none.run pins s σ H _ I ⟨rfl, G, .refl S.gh⟩⟩
theorem ep_some (h : EE X ex e ρ (.int i)) : EPt X ex (some e) ρ (some i) := ⟨fun E σ G H S pins s I => (po_some sem_pe).run pins s σ H _ I (tSem_mono (h E σ G H S) fun v H1 ⟨G1, g1, r1⟩ => by cases r1; exact ⟨i, rfl, rfl, G1, g1⟩)⟩
def cutD (ds : List D) (lo hi : Option Int) : List D := (ds.drop (HT.sIx ds.length 0 lo)).take (HT.sIx ds.length ds.length hi - HT.sIx ds.length 0 lo)
omit [TbT] in
theorem RepL.cut {K : PySem.W.Frag} {G : Hp} {ds : List D} {vs : List V} (r : RepL K G vs ds) (lo hi : Option Int) : RepL K G (cutV vs lo hi) (cutD ds lo hi) := by
  unfold cutV cutD
  rw [r.length]
  exact (r.drop _).take _
omit [TbT] in
theorem tSemP_mono {e : Option Expr} {σ : L2.St} {H : Hp} {Q Q' : Option Int → Hp → Prop} (h : tSemP X e σ H Q) (k : ∀ o H', Q o H' → Q' o H') : tSemP X e σ H Q' :=
  fun pins s I => thn (h pins s I) fun _ _ ⟨o, H', I', r, q⟩ => ⟨o, H', I', r, k o H' q⟩
variable {lo hi : Option Expr} {l h : Option Int}
theorem ee_slT {fs : List D} (ha : EE X ex a ρ (.tup ds)) (hl : EPt X ex lo ρ l) (hh : EPt X ex hi ρ h) (hres : cutD ds l h = fs) : EE X ex (.Subscript a (.Slice lo hi none p2) pos) ρ (.tup fs) := ⟨fun E σ G H S =>
  of_pe (pe_slice sl_tupA sem_pe sem_po sem_po) (tSem_mono (ha E σ G H S) fun v H1 ⟨G1, g1, r1⟩ => tSemP_mono (hl E σ G1 H1 (S.grow g1)) fun o1 H2 ⟨e1, G2, g2⟩ => tSemP_mono (hh E σ G2 H2 (S.grow (g1.trans g2))) fun o2 H3 ⟨e2, G3, g3⟩ => by
    subst e1 e2 hres
    have r3 := r1.mono (g2.trans g3).g
    cases r3 with
    | @tup _ xs _ h1 r =>
      refine ⟨_, _, rfl, g3.gh.t h1, fun w => ?_, fun _ p hp => ?_⟩
      · refine ⟨G3, (g1.trans g2).trans g3, ?_⟩
        have : cutD ds o1 o2 = ds := by
          unfold cutD
          rw [← r.length, w.1, w.2, List.drop_zero, Nat.sub_zero, r.length, List.take_length]
        rw [this]
        exact .tup h1 r
      · have g4 := Grow.new (u := .tup (cutV xs o1 o2)) g3.gh hp
        exact ⟨_, ((g1.trans g2).trans g3).trans g4, .tup (.inl (.inl upd_same)) ((r.cut o1 o2).mono g4.g)⟩)⟩
theorem eo_slL {fs : List D} (ha : EE X ex a ρ (.lst ds)) (hl : EPt X ex lo ρ l) (hh : EPt X ex hi ρ h) (hres : cutD ds l h = fs) : EO X ex (.Subscript a (.Slice lo hi none p2) pos) ρ (fun o => o = .ml fs) := ⟨fun E σ G H S =>
  of_pe (pe_slice sl_list sem_pe sem_po sem_po) (tSem_mono (ha E σ G H S) fun v H1 ⟨G1, g1, r1⟩ => tSemP_mono (hl E σ G1 H1 (S.grow g1)) fun o1 H2 ⟨e1, G2, g2⟩ => tSemP_mono (hh E σ G2 H2 (S.grow (g1.trans g2))) fun o2 H3 ⟨e2, G3, g3⟩ => by
    subst e1 e2 hres
    have r3 := r1.mono (g2.trans g3).g
    cases r3 with
    | @lst _ xs _ h1 r =>
      refine ⟨_, _, rfl, g3.gh.l h1, fun p hp => ?_⟩
      have g0 := (g1.trans g2).trans g3
      have g4 := Grow.newH (u := .lst (cutV xs o1 o2)) g3.gh hp
      exact ⟨.ml _, _, g0.trans g4, ⟨p, _, rfl, upd_same, g3.gh.back hp, g0.h.back hp, r.cut o1 o2⟩, rfl⟩)⟩

/-! ### in, not in: flat data -/
def D.flat : D → Bool
  | .non => true
  | .bl _ => true
  | .int _ => true
  | .str _ => true
  | _ => false
omit [TbT] in
theorem Rep.flat {K : PySem.W.Frag} {G : Hp} {v : V} {d : D} (r : Rep K G v d) (h : d.flat = true) : flatV v = true := by
  cases r <;> first | rfl | cases h
omit [TbT] in
theorem Rep.eqV {K : PySem.W.Frag} {G : Hp} {v w : V} {d e : D} (r : Rep K G v d) (s : Rep K G w e) (h : d.flat = true) (k : e.flat = true) : eqV v w = D.eqv d e := by
  cases r <;> first
    | cases h; done
    | (cases s <;> first | cases k; done | rfl)
omit [TbT] in
theorem RepL.flat {K : PySem.W.Frag} {G : Hp} : ∀ {vs : List V} {ds : List D}, RepL K G vs ds → ds.all D.flat = true → vs.all flatV = true
  | _, _, .nil, _ => rfl
  | _, _, .cons r t, h => by
    rw [List.all_cons, Bool.and_eq_true] at h ⊢
    exact ⟨r.flat h.1, t.flat h.2⟩
omit [TbT] in
theorem RepL.inV {K : PySem.W.Frag} {G : Hp} {v : V} {d : D} (r : Rep K G v d) (h : d.flat = true) : ∀ {vs : List V} {ds : List D}, RepL K G vs ds → ds.all D.flat = true → inV v vs = ds.any fun y => D.eqv y d
  | _, _, .nil, _ => rfl
  | _, _, .cons r' t, k => by
    rw [List.all_cons, Bool.and_eq_true] at k
    unfold L2.inV
    rw [List.any_cons, List.any_cons, r'.eqV r k.1 h]
    exact congrArg (_ || ·) (RepL.inV r h t k.2)
theorem bin_in {neg : Bool} (hi : d2.items = some ds) (hd : d1.flat = true) (hs : ds.all D.flat = true) : BinD X (rIn X.K neg) d1 d2 (.bl (if neg then !(ds.any fun y => D.eqv y d1) else ds.any fun y => D.eqv y d1)) := fun G H v w Q e r1 r2 q => by
  cases r2 with
  | tup h r =>
    cases hi
    exact ⟨_, _, rfl, .inr (e.t h), r1.flat hd, r.flat hs, by rw [RepL.inV r1 hd r hs]; exact q _ G H (.refl e) (.bl _)⟩
  | lst h r =>
    cases hi
    exact ⟨_, _, rfl, .inl (e.l h), r1.flat hd, r.flat hs, by rw [RepL.inV r1 hd r hs]; exact q _ G H (.refl e) (.bl _)⟩
  | cst h r =>
    cases hi
    exact ⟨_, _, rfl, .inl (e.lc h), r1.flat hd, r.flat hs, by rw [RepL.inV r1 hd r hs]; exact q _ G H (.refl e) (.bl _)⟩
  | _ => cases hi
omit [TbT] in
theorem any_ints {ns : List Int} {i : Int} : ((ns.map D.int).any fun y => D.eqv y (.int i)) = decide (i ∈ ns) := by
  induction ns with
  | nil => simp
  | cons n ns ih =>
    rw [List.map_cons, List.any_cons, ih, eqv_int, Bool.eq_iff_iff]
    by_cases h : n = i
    · subst h; simp
    · simp [h, Ne.symm h]
omit [TbT] in
theorem flat_ints {ns : List Int} : (ns.map D.int).all D.flat = true := by simp [D.flat]
theorem ee_in (ha : EE X ex a ρ d1) (hb : EE X ex b ρ d2) (hi : d2.items = some ds) (hd : d1.flat = true := by rfl) (hs : ds.all D.flat = true := by rfl) (hm : behindInMarks .In b = false := by rfl) : EE X ex (.Compare a [.In] [b] pos) ρ (.bl (ds.any fun y => D.eqv y d1)) := ee_cmp op_in_seq (bin_in (neg := false) hi hd hs) ha hb hm
theorem et_in (ha : EE X ex a ρ d1) (hb : EE X ex b ρ d2) (hi : d2.items = some ds) (hd : d1.flat = true := by rfl) (hs : ds.all D.flat = true := by rfl) (hm : behindInMarks .In b = false := by rfl) : ET X ex (.Compare a [.In] [b] pos) ρ (ds.any fun y => D.eqv y d1) := et_cmp op_in_seq (bin_in (neg := false) hi hd hs) ha hb hm
theorem ee_nin (ha : EE X ex a ρ d1) (hb : EE X ex b ρ d2) (hi : d2.items = some ds) (hd : d1.flat = true := by rfl) (hs : ds.all D.flat = true := by rfl) (hm : behindInMarks .NotIn b = false := by rfl) : EE X ex (.Compare a [.NotIn] [b] pos) ρ (.bl (!(ds.any fun y => D.eqv y d1))) := ee_cmp op_notIn_seq (bin_in (neg := true) hi hd hs) ha hb hm
theorem et_nin (ha : EE X ex a ρ d1) (hb : EE X ex b ρ d2) (hi : d2.items = some ds) (hd : d1.flat = true := by rfl) (hs : ds.all D.flat = true := by rfl) (hm : behindInMarks .NotIn b = false := by rfl) : ET X ex (.Compare a [.NotIn] [b] pos) ρ (!(ds.any fun y => D.eqv y d1)) := et_cmp op_notIn_seq (bin_in (neg := true) hi hd hs) ha hb hm

/-! ### list(..), tuple(..) -/
theorem cal_list (hi : d.items = some ds) : CalD X (fun xs H Q => ∃ p ys, xs = [.ref p] ∧ (SqL X.K H p ys ∨ SqT X.K H p ys) ∧ ∀ l, H l = none → Q (.ref l) (upd H l (.lst ys))) [d] (fun o => o = .ml ds) := fun G H vs Q e r q => by
  obtain ⟨v, rfl, r1⟩ := r.of1
  have fin : ∀ (ys : List V), RepL X.K G ys ds → ∀ l, H l = none → Q (.ref l) (upd H l (.lst ys)) := fun ys ry l hl =>
    q _ (.ml ds) _ _ (Grow.newH e hl) ⟨l, ys, rfl, upd_same, e.back hl, hl, ry⟩ rfl
  cases r1 with
  | tup h r2 => cases hi; exact ⟨_, _, rfl, .inr (e.t h), fin _ r2⟩
  | lst h r2 => cases hi; exact ⟨_, _, rfl, .inl (e.l h), fin _ r2⟩
  | cst h r2 => cases hi; exact ⟨_, _, rfl, .inl (e.lc h), fin _ r2⟩
  | _ => cases hi
theorem eo_list (hg : Gl X "list") (hm : X.mg "list" = none) (ha : EA X ex [e] ρ [d]) (hi : d.items = some ds) (he : starEach [e] X.env = (false, eval e X.env) :: starEach [] X.env := by rfl) (hpl : (backTo pos (starEach [] X.env)).any (·.1) = false := by rfl) : EO X ex (.Call (.Name "list" p) [e] [] pos) ρ (fun o => o = .ml ds) :=
  eo_cty call_list_of (cal_list hi) hg hm (by decide +kernel) ha (by decide) (by decide) he hpl
theorem ee_tuple (hg : Gl X "tuple") (hm : X.mg "tuple" = none) (ha : EA X ex [e] ρ [d]) (hi : d.items = some ds) (he : starEach [e] X.env = (false, eval e X.env) :: starEach [] X.env := by rfl) (hpl : (backTo pos (starEach [] X.env)).any (·.1) = false := by rfl) : EE X ex (.Call (.Name "tuple" p) [e] [] pos) ρ (.tup ds) :=
  ee_va (eo_cty call_tuple_of (fun G H vs Q e r q => by
    obtain ⟨v, rfl, r1⟩ := r.of1
    cases r1 with
    | tup h r2 => cases hi; exact ⟨_, _, rfl, .inr ⟨e.t h, q _ (.va _) G H (.refl e) (.tup h r2) rfl⟩⟩
    | @lst _ xs _ h r2 =>
      cases hi
      refine ⟨_, _, rfl, .inl ⟨e.l h, fun l hl => ?_⟩⟩
      have g := Grow.new (u := .tup xs) e hl
      exact q _ (.va _) _ _ g (.tup (.inl (.inl upd_same)) (r2.mono g.g)) rfl
    | @cst _ xs _ h r2 =>
      cases hi
      refine ⟨_, _, rfl, .inl ⟨e.lc h, fun l hl => ?_⟩⟩
      have g := Grow.new (u := .tup xs) e hl
      exact q _ (.va _) _ _ g (.tup (.inl (.inl upd_same)) (r2.mono g.g)) rfl
    | _ => cases hi) hg hm (by decide +kernel) ha (by decide) (by decide) he hpl)

/-! ### what is walked -/
/-- J walks over ds -/
def Wk (K : PySem.W.Frag) (G : Hp) (J : It) (ds : List D) : Prop := ∀ (i : Nat) (G' H : Hp), Ex G G' → Ex G' H → (∀ d, ds[i]? = some d → J.go i H ∧ ∀ x H', J.yld i H x H' → ∃ G2, Grow G' H G2 H' ∧ Rep K G2 x d) ∧ (ds.length ≤ i → J.stop i H)
def tSemI (X : Cx) (tg iter : Expr) : TI := fun σ H R => ∀ (pins : List (Addr × Obj)) (s : Shared), Inv X pins σ H s → wpAny (model X.prog X.w) X.A (eval iter X.env) (fun v s1 => wpAny (model X.prog X.w) X.A (pyIter v) (PIE X pins σ tg R) X.xe s1) X.xe s
omit [TbT] in
theorem sem_pi {tg iter : Expr} : PI X tg iter (tSemI X tg iter) := ⟨fun pins s _ _ _ I h => h pins s I⟩
omit [TbT] in
theorem of_pi {tg iter : Expr} {t : TI} (h : PI X tg iter t) {σ : L2.St} {H : Hp} {R : It → Hp → Prop} (q : t σ H R) : tSemI X tg iter σ H R := fun pins s I => h.run pins s σ H R I q
omit [TbT] in
theorem tSemI_mono {tg iter : Expr} {σ : L2.St} {H : Hp} {R R' : It → Hp → Prop} (h : tSemI X tg iter σ H R) (k : ∀ J H', R J H' → R' J H') : tSemI X tg iter σ H R' := fun pins s I =>
  thn (h pins s I) fun v s1 q => thn q fun u s2 ⟨it, fp, tn, J, H', e, I', T, t0, f, r⟩ => ⟨it, fp, tn, J, H', e, I', T, t0, f, k J H' r⟩
/-- iter walks over ds -/
structure EI (X : Cx) (ex : Exs) (tg iter : Expr) (ρ : List O) (ds : List D) : Prop where
  run : ∀ (E : Hp × Hp) (σ : L2.St) (G H : Hp), SOx X ex E ρ σ G H → tSemI X tg iter σ H fun J H' => ∃ G', Grow G H G' H' ∧ Wk X.K G' J ds
instance {X : Cx} {ex : Exs} {tg iter : Expr} {ρ : List O} {ds : List D} : CoeFun (EI X ex tg iter ρ ds) (fun _ => ∀ (E : Hp × Hp) (σ : L2.St) (G H : Hp), SOx X ex E ρ σ G H → tSemI X tg iter σ H fun J H' => ∃ G', Grow G H G' H' ∧ Wk X.K G' J ds) := ⟨EI.run⟩

variable {tg iter : Expr}
theorem ei_lst (h : EE X ex iter ρ (.lst ds)) : EI X ex tg iter ρ ds := ⟨fun E σ G H S =>
  of_pi (pi_list sem_pe) (tSem_mono (h E σ G H S) fun v H1 ⟨G1, g, r⟩ => by
    cases r with
    | @lst a xs _ hl rl =>
      refine ⟨a, rfl, ⟨xs, g.gh.l hl⟩, G1, g, fun i G' H' e1 e2 => ⟨fun d hd => ?_, fun hle => ⟨xs, e2.l (e1.app _ _ hl), by rw [rl.length]; exact hle⟩⟩⟩
      obtain ⟨v, hv, rv⟩ := rl.get hd
      refine ⟨⟨xs, v, e2.l (e1.app _ _ hl), hv⟩, fun x H2 ⟨e, hx⟩ => ?_⟩
      have := hx xs (e2.l (e1.app _ _ hl))
      rw [hv] at this; cases this
      subst e
      exact ⟨G', .refl e2, rv.mono e1⟩)⟩
theorem ei_tup (h : EE X ex iter ρ (.tup ds)) : EI X ex tg iter ρ ds := ⟨fun E σ G H S =>
  of_pi (pi_tup sem_pe) (tSem_mono (h E σ G H S) fun v H1 ⟨G1, g, r⟩ => by
    cases r with
    | @tup a xs _ hl rl =>
      refine ⟨a, rfl, ⟨xs, g.gh.t hl⟩, G1, g, fun i G' H' e1 e2 => ⟨fun d hd => ?_, fun hle => ⟨xs, e2.t (e1.t hl), by rw [rl.length]; exact hle⟩⟩⟩
      obtain ⟨v, hv, rv⟩ := rl.get hd
      refine ⟨⟨xs, v, e2.t (e1.t hl), hv⟩, fun x H2 ⟨e, hx⟩ => ?_⟩
      have := hx xs (e2.t (e1.t hl))
      rw [hv] at this; cases this
      subst e
      exact ⟨G', .refl e2, rv.mono e1⟩)⟩
def upTo (lo : Int) (n : Nat) : List D := (List.range n).map fun (k : Nat) => D.int (lo + (k : Int))
omit [TbT] in
theorem upTo_get {lo : Int} {n i : Nat} {d : D} (h : (upTo lo n)[i]? = some d) : i < n ∧ d = .int (lo + (i : Int)) := by
  unfold upTo at h
  rw [List.getElem?_map] at h
  by_cases hi : i < n
  · rw [List.getElem?_range hi] at h
    exact ⟨hi, (Option.some.inj h).symm⟩
  · rw [List.getElem?_eq_none (by rw [List.length_range]; omega)] at h
    cases h
omit [TbT] in
theorem upTo_get0 {n i : Nat} {d : D} (h : (upTo 0 n)[i]? = some d) : i < n ∧ d = .int (i : Int) := by
  have := upTo_get h
  rwa [Int.zero_add] at this
omit [TbT] in
theorem upTo_length {lo : Int} {n : Nat} : (upTo lo n).length = n := by unfold upTo; rw [List.length_map, List.length_range]
theorem wk_range {K : PySem.W.Frag} {G : Hp} {lo : Int} {n : Nat} : Wk K G (Itr lo n) (upTo lo n) := fun i G' H e1 e2 => ⟨fun d hd => by
  obtain ⟨hi, rfl⟩ := upTo_get hd
  exact ⟨hi, fun x H' ⟨e, hx⟩ => by subst e hx; exact ⟨G', .refl e2, .int _⟩⟩, fun hle => by rw [upTo_length] at hle; exact hle⟩
theorem ei_range {cpos : Pos} {n : Int} (hm : X.mg "range" = none) (h : EA X ex [a] ρ [.int n]) (hn : -(2 ^ 62) ≤ n ∧ n < 2 ^ 62) (hg : Gl X "range" := by rfl) (hst : starEach [a] X.env = [(false, eval a X.env)] := by rfl) : EI X ex tg (.Call (.Name "range" p) [a] [] cpos) ρ (upTo 0 n.toNat) := ⟨fun E σ G H S =>
  of_pi (pi_range1 hg hm sem_pa hst) (tSemA_mono (h E σ G H S) fun vs H1 ⟨G1, g, r⟩ => by
    obtain ⟨v, rfl, r1⟩ := r.of1
    cases r1
    exact ⟨n, rfl, hn.1, hn.2, G1, g, wk_range⟩)⟩
theorem ei_range2 {cpos : Pos} {lo n : Int} (hm : X.mg "range" = none) (h : EA X ex [a, b] ρ [.int lo, .int n]) (hn : -(2 ^ 62) ≤ lo ∧ lo < 2 ^ 62 ∧ -(2 ^ 62) ≤ n ∧ n < 2 ^ 62) (hg : Gl X "range" := by rfl) (hst : starEach [a, b] X.env = [(false, eval a X.env), (false, eval b X.env)] := by rfl) (hst2 : starEach [b] X.env = [(false, eval b X.env)] := by rfl) : EI X ex tg (.Call (.Name "range" p) [a, b] [] cpos) ρ (upTo lo (n - lo).toNat) := ⟨fun E σ G H S =>
  of_pi (pi_range2 hg hm sem_pa hst hst2) (tSemA_mono (h E σ G H S) fun vs H1 ⟨G1, g, r⟩ => by
    obtain ⟨v, w, rfl, r1, r2⟩ := r.of2
    cases r1; cases r2
    exact ⟨lo, n, rfl, hn, G1, g, wk_range⟩)⟩

/-! ### [elt for target in iter if test] -/
/-- the comprehension's own context -/
abbrev Blk (X : Cx) (s : Shared) (H : Hp) (scope : Scope) (cl : List (Str × Addr)) (C : Addr) (fp : List Addr) : Cx := X.blk s H scope (compEnvC scope cl C X.env) fp
/-- what a comprehension gives: f is none where the test fails -/
def pick (f : Nat → D → Option D) : Nat → List D → List D
  | _, [] => []
  | k, d :: r => (match f k d with | some y => [y] | none => []) ++ pick f (k + 1) r
omit [TbT] in
theorem pick_snoc (f : Nat → D → Option D) : ∀ (ds : List D) (k : Nat) (d : D), pick f k (ds ++ [d]) = pick f k ds ++ (match f (k + ds.length) d with | some y => [y] | none => [])
  | [], k, d => by simp [pick]
  | e :: r, k, d => by
    rw [List.cons_append]
    show _ ++ pick f (k + 1) (r ++ [d]) = (_ ++ pick f (k + 1) r) ++ _
    rw [pick_snoc f r (k + 1) d, List.append_assoc, List.length_cons, show k + 1 + r.length = k + (r.length + 1) by omega]
omit [TbT] in
theorem take_snoc {α : Type} {l : List α} {i : Nat} {x : α} (h : l[i]? = some x) : l.take (i + 1) = l.take i ++ [x] := by
  rw [List.take_add_one, h]; rfl
omit [TbT] in
theorem pick_all {f : Nat → D → D} : ∀ (ds : List D) (k : Nat), pick (fun k d => some (f k d)) k ds = ds.mapIdx fun j d => f (k + j) d
  | [], _ => rfl
  | d :: r, k => by
    show [f k d] ++ pick _ (k + 1) r = _
    rw [pick_all r (k + 1), List.mapIdx_cons]
    simp [Nat.add_assoc, Nat.add_comm 1]
omit [TbT] in
theorem pick_len {f : Nat → D → Option D} : ∀ (ds : List D) (k : Nat), (pick f k ds).length ≤ ds.length
  | [], _ => Nat.le_refl _
  | d :: r, k => by
    show (_ ++ pick f (k + 1) r).length ≤ r.length + 1
    rw [List.length_append]
    have := pick_len (f := f) r (k + 1)
    split <;> simp <;> omega
/-- a clause's tests -/
def tSemTs (X : Cx) (ifs : List Expr) : TT := fun σ H Q => ∀ (pins : List (Addr × Obj)) (s : Shared), Inv X pins σ H s →
  wpAny (model X.prog X.w) X.A (forIn ifs true fun c r => if r = true then do let ok ← isTrue c X.env (eval c X.env); pure (ForInStep.yield ok) else pure (ForInStep.yield r)) (TP X pins σ Q) X.xe s
omit [TbT] in
theorem sem_pts {ifs : List Expr} : PTs X ifs (tSemTs X ifs) := ⟨fun pins s _ _ _ I h => h pins s I⟩
structure ETs (X : Cx) (ex : Exs) (ifs : List Expr) (ρ : List O) (b : Bool) : Prop where
  run : ∀ (E : Hp × Hp) (σ : L2.St) (G H : Hp), SOx X ex E ρ σ G H → tSemTs X ifs σ H fun c H' => c = b ∧ ∃ G', Grow G H G' H'
instance {X : Cx} {ex : Exs} {ifs : List Expr} {ρ : List O} {b : Bool} : CoeFun (ETs X ex ifs ρ b) (fun _ => ∀ (E : Hp × Hp) (σ : L2.St) (G H : Hp), SOx X ex E ρ σ G H → tSemTs X ifs σ H fun c H' => c = b ∧ ∃ G', Grow G H G' H') := ⟨ETs.run⟩

theorem ets_nil : ETs X ex [] ρ true := ⟨fun E σ G H S pins s I => pts_nil.run pins s σ H _ I ⟨rfl, G, .refl S.gh⟩⟩
theorem ets_one {c : Expr} {t : Bool} (h : ET X ex c ρ t) : ETs X ex [c] ρ t := ⟨fun E σ G H S pins s I => (pts_one sem_pt).run pins s σ H _ I (h E σ G H S)⟩
omit [TbT] in
theorem tSemTs_mono {ifs : List Expr} {σ : L2.St} {H : Hp} {Q Q' : Bool → Hp → Prop} (h : tSemTs X ifs σ H Q) (k : ∀ v H', Q v H' → Q' v H') : tSemTs X ifs σ H Q' :=
  fun pins s I => thn (h pins s I) fun _ _ ⟨H', I', q⟩ => ⟨H', I', k _ H' q⟩
/-- slots of the block's names emptied -/
def wipeO (ρ : List O) : List Nat → List O
  | [] => ρ
  | v :: vs => (wipeO ρ vs).set v .un
theorem SOk.unset {K : PySem.W.Frag} {E : Hp × Hp} {σ : L2.St} {G H : Hp} (S : SOk K E ρ σ G H) (i : Nat) : SOk K E (ρ.set i .un) (σ.set i none) G H := S.gone i
theorem SOk.wipe {K : PySem.W.Frag} {E : Hp × Hp} {σ : L2.St} {G H : Hp} (S : SOk K E ρ σ G H) : ∀ vs : List Nat, SOk K E (wipeO ρ vs) (L2.wipe σ vs) G H
  | [] => S
  | v :: vs => (SOk.wipe S vs).unset v
omit [TbT] in
theorem wipe_set {σ : L2.St} {v : Option V} : ∀ {vs : List Nat} {i : Nat}, i ∈ vs → L2.wipe (σ.set i v) vs = L2.wipe σ vs
  | w :: vs, i, h => by
    show (L2.wipe (σ.set i v) vs).set w none = (L2.wipe σ vs).set w none
    by_cases hi : i ∈ vs
    · rw [wipe_set hi]
    · have e : i = w := by
        rcases List.mem_cons.mp h with h | h
        · exact h
        · exact absurd h hi
      subst e
      have : ∀ (us : List Nat) (τ : L2.St), (L2.wipe (τ.set i v) us).set i none = (L2.wipe τ us).set i none := fun us => by
        induction us with
        | nil => intro τ; show (τ.set i v).set i none = τ.set i none; rw [List.set_set]
        | cons u us ih =>
          intro τ
          show ((L2.wipe (τ.set i v) us).set u none).set i none = ((L2.wipe τ us).set u none).set i none
          by_cases hu : u = i
          · subst hu
            rw [List.set_set, List.set_set, ih τ]
          · rw [List.set_comm _ _ hu, List.set_comm _ _ hu, ih τ]
      exact this vs σ
/-- the block's target takes d; of the slots only the block's change -/
structure ATb (X : Cx) (vs : List Nat) (tg : Expr) (d : D) (ρ ρ' : List O) : Prop where
  run : ∀ (E : Hp × Hp) (σ : L2.St) (G H : Hp) (v : V), SOk X.K E ρ σ G H → Rep X.K G v d → tSemG X tg v σ H fun σ' H' => (H' = H ∧ ∀ G1 H1, Ex G G1 → SOk X.K E ρ σ G1 H1 → SOk X.K E ρ' σ' G1 H1) ∧ L2.wipe σ' vs = L2.wipe σ vs
instance {X : Cx} {vs : List Nat} {tg : Expr} {d : D} {ρ ρ' : List O} : CoeFun (ATb X vs tg d ρ ρ') (fun _ => ∀ (E : Hp × Hp) (σ : L2.St) (G H : Hp) (v : V), SOk X.K E ρ σ G H → Rep X.K G v d → tSemG X tg v σ H fun σ' H' => (H' = H ∧ ∀ G1 H1, Ex G G1 → SOk X.K E ρ σ G1 H1 → SOk X.K E ρ' σ' G1 H1) ∧ L2.wipe σ' vs = L2.wipe σ vs) := ⟨ATb.run⟩

structure ATbs (X : Cx) (vs : List Nat) (ts : List Expr) (ds : List D) (ρ ρ' : List O) : Prop where
  run : ∀ (E : Hp × Hp) (σ : L2.St) (G H : Hp) (ws : List V), SOk X.K E ρ σ G H → RepL X.K G ws ds → tSemGs X ts ws σ H fun σ' H' => (H' = H ∧ ∀ G1 H1, Ex G G1 → SOk X.K E ρ σ G1 H1 → SOk X.K E ρ' σ' G1 H1) ∧ L2.wipe σ' vs = L2.wipe σ vs
instance {X : Cx} {vs : List Nat} {ts : List Expr} {ds : List D} {ρ ρ' : List O} : CoeFun (ATbs X vs ts ds ρ ρ') (fun _ => ∀ (E : Hp × Hp) (σ : L2.St) (G H : Hp) (ws : List V), SOk X.K E ρ σ G H → RepL X.K G ws ds → tSemGs X ts ws σ H fun σ' H' => (H' = H ∧ ∀ G1 H1, Ex G G1 → SOk X.K E ρ σ G1 H1 → SOk X.K E ρ' σ' G1 H1) ∧ L2.wipe σ' vs = L2.wipe σ vs) := ⟨ATbs.run⟩

theorem ab_name {vs : List Nat} (i : Nat) (hv : i ∈ vs := by decide) (hN : X.N.Nodup) (hi : X.N[i]? = some x := by rfl) (hx : Loc X.env.scope x := by first | exact Or.inl rfl | exact Or.inr rfl) (hf : X.fn x = true ∨ X.env.scope.names.lookup x = some .local := by first | exact .inl rfl | exact .inr rfl) : ATb X vs (.Name x pos) d ρ (ρ.set i (.va d)) := ⟨fun E σ G H v S r =>
  of_pg (pg_name hN hi hx hf) ⟨⟨rfl, fun G1 H1 e S1 => S1.set i (o := .va d) (Rep.mono e r) fun h => absurd h Bool.false_ne_true⟩, wipe_set hv⟩⟩
theorem abs_nil {vs : List Nat} : ATbs X vs [] [] ρ ρ := ⟨fun E σ G H ws S r => by
  cases r
  exact of_pgs pgs_nil ⟨rfl, ⟨rfl, fun _ _ _ S1 => S1⟩, rfl⟩⟩
theorem abs_cons {vs : List Nat} {tg : Expr} {ts : List Expr} {ρ1 ρ2 : List O} (h : ATb X vs tg d ρ ρ1) (t : ATbs X vs ts ds ρ1 ρ2) (hs : (assignEach (tg :: ts) X.env).map (·.2) = assign tg X.env :: (assignEach ts X.env).map (·.2) := by rfl) : ATbs X vs (tg :: ts) (d :: ds) ρ ρ2 := ⟨fun E σ G H ws S r => by
  cases r with
  | cons r1 r2 =>
    refine of_pgs (pgs_cons sem_pg sem_pgs hs) ⟨_, _, rfl, tSemG_mono (h E σ G H _ S r1) fun σ' H' ⟨⟨e, S'⟩, q⟩ => ?_⟩
    subst e
    exact tSemGs_mono (t E σ' G _ _ (S' _ _ (Ex.refl _) S) r2) fun σ2 H2 ⟨⟨a, S2⟩, q2⟩ => ⟨⟨a, fun G1 H1 e1 S1 => S2 G1 H1 e1 (S' G1 H1 e1 S1)⟩, q2.trans q⟩⟩
theorem ab_tup {vs : List Nat} {ts : List Expr} {k : Nat} {ρ1 : List O} (h : ATbs X vs ts ds ρ ρ1) (hc : X.calm = true := by rfl) (hn : (assignEach ts X.env).length = ds.length := by rfl) (hst : (assignEach ts X.env).findIdx? (·.1) = none := by rfl) : ATb X vs (.Tuple ts k pos) (.tup ds) ρ ρ1 := ⟨fun E σ G H v S r => by
  cases r with
  | tup h1 r1 =>
    exact of_pg (pg_tup hc sem_pgs hn hst) ⟨_, _, rfl, S.gh.t h1, by rw [r1.length], h E σ G H _ S r1⟩⟩
/-- a turn of the comprehension -/
def LcTurn (X : Cx) (scope : Scope) (vs : List Nat) (tg elt : Expr) (ifs : List Expr) (ρ : List O) (ds : List D) (f : Nat → D → Option D) : Prop := ∀ (k : Nat) (d : D), ds[k]? = some d → ∃ (ρ2 : List O) (t : Bool),
  (∀ s H cl C fp, ATb (Blk X s H scope cl C fp) vs tg d (wipeO ρ vs) ρ2) ∧ (∀ s H cl C fp, ETs (Blk X s H scope cl C fp) noX ifs ρ2 t) ∧
  (t = true → ∃ y, f k d = some y ∧ ∀ s H cl C fp, EE (Blk X s H scope cl C fp) noX elt ρ2 y) ∧ (t = false → f k d = none)
theorem lc_run {vs : List Nat} {scope : Scope} {elt tg iter : Expr} {ifs : List Expr} {f : Nat → D → Option D} (hI : EI X ex tg iter ρ ds) (hl : ds.length ≤ sizeLine) (ht : LcTurn X scope vs tg elt ifs ρ ds f) {E : Hp × Hp} {σ : L2.St} {G H : Hp} (S : SOx X ex E ρ σ G H) {Q : VK}
    (q : ∀ v G' H', Grow G H G' H' → OOk X.K H G' H' (.ml (pick f 0 ds)) v → Q v H') :
    tLc (tSemI X tg iter) (fun v σ H Q => ∀ s H0 cl C fp, tSemG (Blk X s H0 scope cl C fp) tg v σ H Q) (fun σ H Q => ∀ s H0 cl C fp, tSemTs (Blk X s H0 scope cl C fp) ifs σ H Q) (fun σ H Q => ∀ s H0 cl C fp, tSem (Blk X s H0 scope cl C fp) elt σ H Q) vs σ H Q := by
  refine tSemI_mono (hI E σ G H S) fun J H1 ⟨G1, g1, wk⟩ => fun DD hD => ?_
  refine ⟨fun i m H' => m = ds.length - i ∧ i ≤ ds.length ∧ ∃ G2 ys, Grow G1 H1 G2 H' ∧ H' DD = some (.lst ys) ∧ G2 DD = none ∧ RepL X.K G2 ys (pick f 0 (ds.take i)), ⟨ds.length, by simp, Nat.zero_le _, G1, [], Grow.newH g1.gh hD, upd_same, g1.gh.back hD, .nil⟩, ?_⟩
  rintro i m H' ⟨rfl, hi, G2, ys, g2, hH, hG, r⟩
  have w := wk i G2 H' g2.g g2.gh
  by_cases hlt : i < ds.length
  · obtain ⟨go, yl⟩ := w.1 ds[i] (List.getElem?_eq_getElem hlt)
    refine .inr ⟨go, fun H'' => i < ds.length ∧ ∃ G2 ys, Grow G1 H1 G2 H'' ∧ H'' DD = some (.lst ys) ∧ G2 DD = none ∧ RepL X.K G2 ys (pick f 0 (ds.take (i + 1))), fun H'' ⟨_, z⟩ => ⟨ds.length - (i + 1), by omega, rfl, hlt, z⟩, fun x H3 hy => ?_⟩
    obtain ⟨G3, g3, rx⟩ := yl x H3 hy
    obtain ⟨ρ2, t, h1, h2, h3, h4⟩ := ht i _ (List.getElem?_eq_getElem hlt)
    have gg := g2.trans g3
    have S3 : SOk X.K E (wipeO ρ vs) (L2.wipe σ vs) G3 H3 := (S.toSOk.wipe vs).grow (g1.trans gg)
    have keepD : ∀ {G4 H4 : Hp}, Grow G3 H3 G4 H4 → H4 DD = some (.lst ys) ∧ G4 DD = none := fun {G4 H4} g => by
      refine ⟨g.h.app _ _ (g3.h.app _ _ hH), ?_⟩
      cases z : G4 DD with
      | none => rfl
      | some u =>
        have e3 : G3 DD = none := by
          cases z3 : G3 DD with
          | none => rfl
          | some u3 => exact absurd (g3.fr DD hG (by rw [z3]; simp)) (by rw [hH]; simp)
        exact absurd (g.fr DD e3 (by rw [z]; simp)) (by rw [g3.h.app _ _ hH]; simp)
    have pk := pick_snoc f (ds.take i) 0 ds[i]
    rw [← take_snoc (List.getElem?_eq_getElem hlt), Nat.zero_add, List.length_take, Nat.min_eq_left hi] at pk
    intro s0 H0 cl C fp
    refine tSemG_mono (h1 s0 H0 cl C fp E _ G3 H3 x S3 rx) fun σ2 H2 ⟨⟨e, S4'⟩, wq⟩ => ?_
    subst e
    have S4 := S4' _ _ (Ex.refl _) S3
    refine ⟨wq.trans ?_, fun s0 H0 cl C fp => tSemTs_mono (h2 s0 H0 cl C fp E σ2 G3 _ (SOk.nox (X := Blk X s0 H0 scope cl C fp) S4)) fun b H4 ⟨eb, G4, g4⟩ => ?_⟩
    · have : ∀ us : List Nat, L2.wipe (L2.wipe σ us) us = L2.wipe σ us := fun us => by
        have key : ∀ (us ws : List Nat), (∀ u ∈ us, u ∈ ws) → L2.wipe (L2.wipe σ us) ws = L2.wipe σ ws := fun us => by
          induction us with
          | nil => intro ws _; rfl
          | cons u us ih =>
            intro ws hm
            show L2.wipe ((L2.wipe σ us).set u none) ws = _
            rw [wipe_set (hm u List.mem_cons_self), ih ws fun u hu => hm u (List.mem_cons_of_mem _ hu)]
        exact key us us fun _ h => h
      exact this vs
    subst eb
    cases b with
    | true =>
      rw [if_pos rfl]
      obtain ⟨y, hf, hy⟩ := h3 rfl
      intro s0 H0 cl C fp
      refine tSem_mono (hy s0 H0 cl C fp E σ2 G4 H4 (SOk.nox (X := Blk X s0 H0 scope cl C fp) (S4.grow g4))) fun v H5 ⟨G5, g5, rv⟩ => ?_
      have g45 := g4.trans g5
      obtain ⟨k1, k2⟩ := keepD g45
      have gt := gg.trans g45
      refine ⟨ys, k1, ?_, hlt, G5, ys ++ [v], ?_, upd_same, k2, ?_⟩
      · rw [r.length]
        have := pick_len (f := f) (ds.take i) 0
        rw [List.length_take] at this
        omega
      · exact ⟨gt.g, gt.h.mut hD, gt.gh.mut k2, gt.fr, fun t => tb_lst (gt.tb t) k1⟩
      · rw [pk, hf]
        exact (r.mono (g3.trans g45).g).append (.one rv)
    | false =>
      rw [if_neg Bool.false_ne_true]
      obtain ⟨k1, k2⟩ := keepD g4
      refine ⟨hlt, G4, ys, gg.trans g4, k1, k2, ?_⟩
      rw [pk, h4 rfl, List.append_nil]
      exact r.mono (g3.trans g4).g
  · have e : i = ds.length := by omega
    subst e
    rw [List.take_length] at r
    refine .inl ⟨w.2 (Nat.le_refl _), q _ G2 H' (g1.trans g2) ⟨DD, ys, rfl, hH, hG, ?_, r⟩⟩
    exact g1.h.back hD
/-- [elt for target in iter if test] as a value -/
theorem eo_lc {scope : Scope} {elt tg iter : Expr} {ifs : List Expr} {f : Nat → D → Option D} (own : List (Str × Nat)) (hI : EI X ex tg iter ρ ds) (hN : X.N.Nodup) (ok : BlkOk X.N X.env.scope scope own) (hl : ds.length ≤ sizeLine) (ht : LcTurn X scope (own.map (·.2)) tg elt ifs ρ ds f) (hc : X.calm = true := by rfl) (hs : ∀ x, foldedSetIterable iter X.env x = pure x := by intro _; rfl) :
    EO X ex (.ListComp elt [⟨tg, iter, ifs, 0⟩] scope pos) ρ (fun o => o = .ml (pick f 0 ds)) := ⟨fun E σ G H S =>
  of_pe (pe_lc hc hN sem_pi ok (fun s H C cl fp => ⟨fun pins s1 σ H v u Q I r h => h s _ cl C fp pins s1 u I r⟩) (fun s H C cl fp => ⟨fun pins s1 σ H Q I h => h s _ cl C fp pins s1 I⟩) (fun s H C cl fp => ⟨fun pins s1 σ H Q I h => h s _ cl C fp pins s1 I⟩) hs)
    (lc_run hI hl ht S fun v G' H' g o => ⟨_, G', g, o, rfl⟩)⟩
/-- x = [elt for ..] on one line -/
theorem ws_setLc (i : Nat) {W : Eds} {y : Str} {py spos : Pos} {scope : Scope} {elt tg iter : Expr} {ifs : List Expr} {f : Nat → D → Option D} (own : List (Str × Nat)) (hI : EI X ex tg iter ρ ds) (hN : X.N.Nodup) (ok : BlkOk X.N X.env.scope scope own) (hl : ds.length ≤ sizeLine) (ht : LcTurn X scope (own.map (·.2)) tg elt ifs ρ ds f)
    (k : W.nx (ρ.set i (.ml (pick f 0 ds)))) (hc : X.calm = true := by rfl) (hy : X.N[i]? = some y := by rfl) (hyl : X.env.scope.names.lookup y = some .local := by rfl) (hsw : swapsWith (.ListComp elt [⟨tg, iter, ifs, 0⟩] scope pos) (some (.Name y py)) spos.line X.env = pure true := by exact sw_true rfl rfl rfl rfl) (hs : ∀ x, foldedSetIterable iter X.env x = pure x := by intro _; rfl) :
    WS X ex (.Assign [.Name y py] (.ListComp elt [⟨tg, iter, ifs, 0⟩] scope pos) spos) ρ W := ⟨fun E σ G H S =>
  of_ps (ps_setLc hc hN hy hyl hsw sem_pi ok (fun s H C cl fp => ⟨fun pins s1 σ H v u Q I r h => h s _ cl C fp pins s1 u I r⟩) (fun s H C cl fp => ⟨fun pins s1 σ H Q I h => h s _ cl C fp pins s1 I⟩) (fun s H C cl fp => ⟨fun pins s1 σ H Q I h => h s _ cl C fp pins s1 I⟩) hs)
    (lc_run hI hl ht S fun v G' H' g o => ⟨_, G', set_own S.toSOk g o i, g.g, k⟩)⟩
end
omit [TbT] in
theorem cat_ok {m n : Nat} (h : Nat.ble (m + n) 64 = true) : m + n ≤ sizeLine := Nat.le_trans (Nat.le_of_ble_eq_true h) (by decide)
omit [TbT] in
theorem len_ok3 {n : Nat} (h : n ≤ 1000000) : n ≤ sizeLine := Nat.le_trans h (by decide)
omit [TbT] in
theorem in_pm (i : Int) : ([D.int 1, D.int (-1)].any fun y => D.eqv y (.int i)) = decide (i = 1 ∨ i = -1) := by
  have := any_ints (ns := [1, -1]) (i := i)
  rw [show ([1, -1] : List Int).map D.int = [D.int 1, D.int (-1)] from rfl] at this
  rw [this, Bool.eq_iff_iff]
  simp
omit [TbT] in
/-- a slice of ints -/
theorem cut_ints {ns : List Int} (k : Nat) {i : Int} (e : i = (k : Int)) (h : k ≤ ns.length) : cutD (ns.map .int) (some i) none = (ns.drop k).map .int := by
  subst e
  unfold cutD
  rw [HT.sIx_nat, HT.sIx_none, List.length_map, Nat.min_eq_left h, ← List.map_drop, List.take_of_length_le (by rw [List.length_map, List.length_drop]; exact Nat.le_refl _)]
omit [TbT] in
theorem atI_at {ds : List D} {d : D} (k : Nat) {i : Int} (e : i = (k : Int)) (h : ds[k]? = some d) : atI ds i = some d := by
  subst e; exact atI_nat h
omit [TbT] in
theorem cut_lo {ds : List D} (k : Nat) {i : Int} (e : i = (k : Int)) (h : k ≤ ds.length) : cutD ds none (some i) = ds.take k := by
  subst e
  unfold cutD
  rw [HT.sIx_nat, HT.sIx_none, List.drop_zero, Nat.min_eq_left h, Nat.sub_zero]
omit [TbT] in
theorem getD_drop {ns : List Int} {j k : Nat} : (ns.drop j).getD k 0 = ns.getD (j + k) 0 := by simp [List.getD]
end TG
/-! sorted(..) of alike data. -/
namespace TG
open PySem PySem.Spec PyProof.Rows L2
variable [TbT]
/-- the order of data -/
def leD (a b : D) : Bool := PySem.W.dataLe false D.py a b
/-- sorted -/
def srt (ds : List D) : List D := ds.mergeSort leD
omit [TbT] in
theorem srt_len {ds : List D} : (srt ds).length = ds.length := List.length_mergeSort ds
def Rows (ds : List D) : Prop := PySem.W.AllAlike (ds.map D.py) ∧ PySem.W.Sortable (ds.map D.py)
omit [TbT] in
theorem rows_map {α : Type} {f : α → D} {l : List α} (hal : ∀ x y, PySem.W.alike (f x).py (f y).py = true) (ht : ∀ x, ∃ a r, (f x).py = .tuple (a :: r)) : Rows (l.map f) := by
  refine ⟨fun d hd e he => ?_, .inl fun d hd => ?_⟩
  · rw [List.map_map] at hd he
    obtain ⟨x, _, rfl⟩ := List.mem_map.mp hd
    obtain ⟨y, _, rfl⟩ := List.mem_map.mp he
    exact hal x y
  · rw [List.map_map] at hd
    obtain ⟨x, _, rfl⟩ := List.mem_map.mp hd
    exact ht x
omit [TbT] in
theorem rows_mapI {α : Type} {f : α → D} {l : List α} (hal : ∀ x, ∃ i, f x = .int i) : Rows (l.map f) := by
  refine ⟨fun d hd e he => ?_, .inr fun d hd => ?_⟩
  · rw [List.map_map] at hd he
    obtain ⟨x, _, rfl⟩ := List.mem_map.mp hd
    obtain ⟨y, _, rfl⟩ := List.mem_map.mp he
    obtain ⟨i, hi⟩ := hal x
    obtain ⟨j, hj⟩ := hal y
    show PySem.W.alike (f x).py (f y).py = true
    rw [hi, hj]; rfl
  · rw [List.map_map] at hd
    obtain ⟨x, _, rfl⟩ := List.mem_map.mp hd
    obtain ⟨i, hi⟩ := hal x
    have e : (D.py ∘ f) x = .int i := congrArg D.py hi
    rw [e]
    exact ⟨fun z => (by cases z), fun xs z => (by cases z)⟩
omit [TbT] in
/-- what neither is less of is equal -/
theorem leD_anti {d e : D} (hal : PySem.W.alike d.py e.py = true) (h1 : leD d e = true) (h2 : leD e d = true) : D.eqv d e = true := by
  have k1 : PySem.W.dataLt e.py d.py = false := by
    have : (!PySem.W.dataLt e.py d.py) = true := h1
    simpa using this
  have k2 : PySem.W.dataLt d.py e.py = false := by
    have : (!PySem.W.dataLt d.py e.py) = true := h2
    simpa using this
  have q : PySem.W.keyToks d.py = PySem.W.keyToks e.py := (listOrd PyProof.Rows.itemOrd).total _ _ k2 k1
  cases hq : D.eqv d e with
  | true => rfl
  | false =>
    have t := (PySem.W.toks_eqv d.py e.py hal).2 hq [.inl 0] [.inl 1]
    have z : PyProof.Rows.lexLt PyProof.Rows.itemOrd (PySem.W.keyToks d.py) (PySem.W.keyToks e.py) = false := k2
    rw [z, q, PySem.W.lex_pre] at t
    exact absurd t (by decide)
omit [TbT] in
theorem srt_pairwise (ds : List D) : (srt ds).Pairwise (fun a b => leD a b = true) := PySem.W.sort_pairwise (PySem.W.sortLe_total (listOrd PyProof.Rows.itemOrd) false fun d : D => PySem.W.keyToks d.py) ds
omit [TbT] in
theorem srt_perm {α : Type} {f : α → D} {l m : List α} (h : l.Perm m) (hal : ∀ x y, PySem.W.alike (f x).py (f y).py = true) (inj : ∀ x y, D.eqv (f x) (f y) = true → x = y) : srt (l.map f) = srt (m.map f) := by
  refine List.Perm.eq_of_pairwise (le := fun a b => leD a b = true) (fun a b ha hb h1 h2 => ?_) (srt_pairwise _) (srt_pairwise _) (((List.mergeSort_perm _ _).trans (h.map f)).trans (List.mergeSort_perm _ _).symm)
  obtain ⟨x, _, rfl⟩ := List.mem_map.mp (List.mem_mergeSort.mp ha)
  obtain ⟨y, _, rfl⟩ := List.mem_map.mp (List.mem_mergeSort.mp hb)
  rw [inj x y (leD_anti (hal x y) h1 h2)]
omit [TbT] in
/-- sorted data are the data of something -/
theorem srt_map {α : Type} {f : α → D} (l : List α) : srt (l.map f) = (l.mergeSort fun x y => leD (f x) (f y)).map f := (List.map_mergeSort (r := fun x y => leD (f x) (f y)) (s := leD) (f := f) (l := l) fun _ _ _ _ => rfl).symm
omit [TbT] in
/-- values that stand for data stand for a list's items -/
theorem each_repl {K : PySem.W.Frag} {G : Hp} : ∀ {us : List Value} {ds : List D}, PySem.W.EachIs (fun (u : Value) (d : D) => ∃ x, RelV x u ∧ Rep K G x d) us ds → ∃ xs, Vals xs us ∧ RepL K G xs ds
  | _, _, .nil => ⟨[], .nil, .nil⟩
  | _, _, .cons ⟨x, r, h⟩ t => by
    obtain ⟨xs, r2, h2⟩ := each_repl t
    exact ⟨x :: xs, .cons r r2, .cons h h2⟩
omit [TbT] in
theorem repl_each {K : PySem.W.Frag} {G : Hp} : ∀ {xs : List V} {us : List Value} {ds : List D}, Vals xs us → RepL K G xs ds → PySem.W.EachIs (fun (u : Value) (d : D) => ∃ x, RelV x u ∧ Rep K G x d) us ds
  | _, _, _, .nil, .nil => .nil
  | _, _, _, .cons r t, .cons h k => .cons ⟨_, r, h⟩ (repl_each t k)
omit [TbT] in
theorem repl_reads {X : Cx} {pins : List (Addr × Obj)} {σ : L2.St} {G H : Hp} {s : Shared} (I : Inv X pins σ H s) (e : Ex G H) : ∀ {xs : List V} {us : List Value} {ds : List D}, Vals xs us → RepL X.K G xs ds → D.plains ds = true → PySem.W.EachIs (fun (u : Value) (d : D) => ∃ as, Reads s.heap u d.py as) us ds
  | _, _, [], .nil, .nil, _ => .nil
  | _, _, d :: ds, .cons r t, .cons h k, p => by
    have p' : (D.plain d && D.plains ds) = true := p
    rw [Bool.and_eq_true] at p'
    exact .cons (Dp.reads I _ _ _ (h.dp e p'.1) r) (repl_reads I e t k p'.2)
def rSortedL (K : PySem.W.Frag) (A : Around) : List V → Hp → VK → Prop := fun vs H Q => ∃ (a : Addr) (xs : List V) (ds : List D) (G : Hp), vs = [V.ref a] ∧ SqL K H a xs ∧ Ex G H ∧ RepL K G xs ds ∧ D.plains ds = true ∧ Rows ds ∧ (∀ d ∈ ds, A.units + 2 + d.py.depth < cLine) ∧
  ∀ ys p, RepL K G ys (srt ds) → H p = none → Q (.ref p) (upd H p (.lst ys))
omit [TbT] in
theorem cr_sortedL {X : Cx} : CallR X (.builtin "sorted") (rSortedL X.K X.A) := by
  intro pins s σ H vs us Q I r h
  obtain ⟨a, xs, ds, G, rfl, hs, ex, rl, hp, hr, hu, q⟩ := h
  obtain ⟨its, rv, hl, hz⟩ := I.list hs
  obtain ⟨u, rfl, ru⟩ := L2.vals1 r
  obtain rfl : u = Value.ref a := ru
  have hlen : ds.length ≤ sizeLine := by rw [← rl.length]; exact hz
  refine PySem.W.sorted_data (bs := ds) (enc := D.py) hl.isList (repl_each rv rl) (repl_reads I ex rv rl hp) hr.1 hr.2 hlen hu fun out ho he => ?_
  obtain ⟨ys, h1, h2⟩ := each_repl he
  obtain ⟨n, hn⟩ := sortedAll_at s.heap its out.toArray
  refine ⟨.ref (s.heap.objs.size + 1), upd H (s.heap.objs.size + 1) (.lst ys), I.laid (t' := s.toks) (fun b o e => sortedAll_old e) (Nat.le_succ _) ⟨?_, out, n, h1, hn⟩, rfl, q _ _ h2 (I.hok.fresh (Nat.le_succ _))⟩
  rw [h1.length, ho]; exact hlen
section
variable {X : Cx} {ex : Exs} {ρ : List O} {e : Expr} {ds : List D} {d : D} {pos p : Pos}
/-- sorted(e), e a list -/
theorem eo_sorted {k : Nat} (hr : Room k X.A) (hg : Gl X "sorted") (hm : X.mg "sorted" = none) (ha : EA X ex [e] ρ [.lst ds]) (hp : D.plains ds = true) (hrow : Rows ds) (hd : D.depths ds ≤ 60) (he : starEach [e] X.env = (false, eval e X.env) :: starEach [] X.env := by rfl) (hpl : (backTo pos (starEach [] X.env)).any (·.1) = false := by rfl) : EO X ex (.Call (.Name "sorted" p) [e] [] pos) ρ (fun o => o = .ml (srt ds)) :=
  eo_blt cr_sortedL (fun G H vs Q e r q => by
    obtain ⟨v, rfl, r1⟩ := r.of1
    cases r1 with
    | lst h r2 =>
      refine ⟨_, _, ds, G, rfl, e.l h, e, r2, hp, hrow, fun d hd' => ?_, fun ys p hy hn => ?_⟩
      · have h1 := D.depth_py d
        obtain ⟨i, hi⟩ := List.mem_iff_getElem?.mp hd'
        have h2 := depths_get hi
        have := hr.units
        omega
      · have g2 := Grow.newH (u := .lst ys) e hn
        exact q _ (.ml (srt ds)) G _ g2 ⟨p, ys, rfl, upd_same, e.back hn, hn, hy⟩ rfl) hg hm (by decide +kernel) ha (by decide) (by decide) he hpl
end
section
variable {X : Cx} {ex : Exs} {ρ : List O} {e : Expr} {W : Eds} {pos : Pos}
/-- a, b = e: e a tuple told by a relation -/
theorem ws_unpackP {P : O → Prop} {ts : List Expr} {k : Nat} {pt : Pos} (h : EO X ex e ρ P) (hk : ∀ o, P o → ∃ d ρ1, o = .va d ∧ ATg X (.Tuple ts k pt) d ρ ρ1 ∧ W.nx ρ1) (hs : swapsWithSole [.Tuple ts k pt] e pos.line X.env = pure false := by rfl) (hw : swappedStores [.Tuple ts k pt] e X.env = pure none := by rfl)
    (h1 : (assignEach [.Tuple ts k pt] X.env).map (·.2) = [assign (.Tuple ts k pt) X.env] := by rfl) : WS X ex (.Assign [.Tuple ts k pt] e pos) ρ W := ⟨fun E σ G H S =>
  of_ps (ps_asg sem_pe sem_pg hs hw h1) (tSem_mono (h E σ G H S) fun v H1 ⟨o, G1, g, r, p⟩ => by
    obtain ⟨d, ρ1, rfl, ht, n⟩ := hk o p
    exact tSemG_mono (ht E σ G1 H1 v (S.grow g) r) fun σ' H' ⟨e, S'⟩ => by
      subst e
      exact ⟨ρ1, G1, S', g.g, n⟩)⟩
end
/-! ### lists that grow -/
section
variable {α β γ : Type}
omit [TbT] in
theorem getD_mem {l : List α} {k : Nat} {x : α} (h : k < l.length) : l.getD k x ∈ l := by
  have : l.getD k x = l[k] := by simp [List.getD, h]
  rw [this]; exact List.getElem_mem h
omit [TbT] in
theorem take_getD {l : List α} {k : Nat} (x : α) (h : k < l.length) : l.take (k + 1) = l.take k ++ [l.getD k x] := by
  refine take_snoc ?_
  simp [List.getD, h]
omit [TbT] in
theorem map_getK {f : α → D} {l : List α} {k : Nat} {d : D} (x : α) (h : (l.map f)[k]? = some d) : k < l.length ∧ d = f (l.getD k x) := by
  rw [List.getElem?_map] at h
  by_cases hk : k < l.length
  · rw [List.getElem?_eq_getElem hk] at h
    exact ⟨hk, by rw [← Option.some.inj h]; simp [List.getD, hk]⟩
  · rw [List.getElem?_eq_none (by omega)] at h; cases h
omit [TbT] in
/-- a loop that appends where p holds -/
theorem in_yesM {acc : List β} {l : List α} {p : α → Bool} {f : α → β} {g : β → γ} {k : Nat} {x : α} (h : k < l.length) (hp : p (l.getD k x) = true) : (acc ++ ((l.take (k + 1)).filter p).map f).map g = (acc ++ ((l.take k).filter p).map f).map g ++ [g (f (l.getD k x))] := by
  have e : [l.getD k x].filter p = [l.getD k x] := by rw [List.filter_cons_of_pos hp]; rfl
  rw [take_getD x h, List.filter_append, e]
  simp only [List.map_append, List.map_cons, List.map_nil, List.append_assoc]
omit [TbT] in
theorem in_noM {acc : List β} {l : List α} {p : α → Bool} {f : α → β} {g : β → γ} {k : Nat} {x : α} (h : k < l.length) (hp : p (l.getD k x) = false) : (acc ++ ((l.take (k + 1)).filter p).map f).map g = (acc ++ ((l.take k).filter p).map f).map g := by
  have e : [l.getD k x].filter p = [] := by rw [List.filter_cons_of_neg (by rw [hp]; exact Bool.false_ne_true)]; rfl
  rw [take_getD x h, List.filter_append, e, List.append_nil]
omit [TbT] in
theorem flat_next {l : List α} {f : α → List β} {g : β → γ} {k : Nat} {x : α} (h : k < l.length) : ((l.take (k + 1)).flatMap f).map g = ((l.take k).flatMap f ++ f (l.getD k x)).map g := by
  rw [take_getD x h, List.flatMap_append]; simp
omit [TbT] in
theorem map_next {l : List α} {f : α → γ} {k : Nat} {x : α} (h : k < l.length) : (l.take (k + 1)).map f = (l.take k).map f ++ [f (l.getD k x)] := by
  rw [take_getD x h, List.map_append]; rfl
omit [TbT] in
theorem flat_len {l : List α} {f : α → List β} {n : Nat} (h : ∀ x, (f x).length ≤ n) : (l.flatMap f).length ≤ l.length * n := by
  induction l with
  | nil => simp
  | cons x l ih =>
    rw [List.flatMap_cons, List.length_append, List.length_cons, Nat.succ_mul]
    have := h x
    omega
omit [TbT] in
theorem line_of {n : Nat} (h : n ≤ 100000) : n < sizeLine := Nat.lt_of_le_of_lt h (by decide)
end
end TG
/-! sum, list + list, extend, comprehensions with two clauses. -/
namespace TG
open PySem PySem.Spec PyProof.Rows L2
variable [TbT]
section
variable {X : Cx} {ex : Exs} {ρ : List O} {e a b : Expr} {es : List Expr} {d d1 d2 : D} {ds fs : List D} {pos p p2 : Pos} {i : Int} {x : Str} {W : Eds}
omit [TbT] in
theorem RepL.ints_of {K : PySem.W.Frag} {G : Hp} : ∀ {ns : List Int} {vs : List V}, RepL K G vs (ns.map D.int) → vs = ns.map V.int
  | [], _, .nil => rfl
  | n :: r, _, .cons h t => by cases h; rw [RepL.ints_of t]; rfl
/-- sum(xs) of ints -/
theorem ee_sum {ns : List Int} (hg : Gl X "sum") (hm : X.mg "sum" = none) (ha : EA X ex [e] ρ [.lst ds]) (hd : ds = ns.map .int) (hc : X.calm = true := by rfl) (he : starEach [e] X.env = (false, eval e X.env) :: starEach [] X.env := by rfl) (hpl : (backTo pos (starEach [] X.env)).any (·.1) = false := by rfl) : EE X ex (.Call (.Name "sum" p) [e] [] pos) ρ (.int ns.sum) :=
  ee_va (eo_blt (cr_sum hc) (fun G H vs Q e r q => by
    subst hd
    obtain ⟨v, rfl, r1⟩ := r.of1
    cases r1 with
    | lst h r2 =>
      obtain rfl := r2.ints_of
      exact ⟨_, ns, rfl, e.l h, q _ (.va (.int _)) G H (.refl e) (.int _) rfl⟩) hg hm (by decide +kernel) ha (by decide) (by decide) he hpl)
/-- list + list -/
theorem eo_catL (ha : EE X ex a ρ (.lst ds)) (hb : EE X ex b ρ (.lst fs)) (hz : ds.length + fs.length ≤ sizeLine) : EO X ex (.BinOp a .Add b pos) ρ (fun o => o = .ml (ds ++ fs)) := ⟨fun E σ G H S =>
  of_pe (pe_op op_cat sem_pe sem_pe) (tSem_mono (ha E σ G H S) fun v H1 ⟨G1, g1, r1⟩ => tSem_mono (hb E σ G1 H1 (S.grow g1)) fun w H2 ⟨G2, g2, r2⟩ => by
    have r1' := r1.mono g2.g
    cases r1' with
    | @lst _ xs _ h1 r1 =>
      cases r2 with
      | @lst _ ys _ h2 r2 =>
        refine ⟨_, _, _, _, rfl, rfl, g2.gh.app _ _ h1, g2.gh.app _ _ h2, by rw [r1.length, r2.length]; exact hz, fun p hp => ?_⟩
        have g3 := Grow.newH (u := .lst (xs ++ ys)) g2.gh hp
        exact ⟨.ml (ds ++ fs), _, (g1.trans g2).trans g3, ⟨p, _, rfl, upd_same, g2.gh.back hp, (g1.trans g2).h.back hp, r1.append r2⟩, rfl⟩)⟩
/-- xs.extend(ys) -/
theorem ws_extend (i : Nat) {cpos apos npos : Pos} (hr : ρ[i]? = some (.ml ds)) (h : EE X ex e ρ (.lst fs)) (hl : ds.length + fs.length ≤ sizeLine) (k : W.nx (ρ.set i (.ml (ds ++ fs)))) (hN : X.N[i]? = some x := by rfl) (hv : Vis X.env.scope x := by first | exact Or.inl rfl | exact Or.inr (Or.inl rfl) | exact Or.inr (Or.inr rfl)) (hd : (x == ("__debug__" : Str)) = false := by decide)
    (hcd : (x == ("__classdict__" : Str)) = false := by decide) (hbase : attributeBase (.Name x npos) "extend" X.env (eval (.Name x npos) X.env) = eval (.Name x npos) X.env := by rfl)
    (hfew : ((backTo cpos (starEach [e] X.env)).all (fun x => !x.1) && (backToKw cpos (keywordEach [] X.env)).all (fun x => x.1.isSome)
      && decide (([e] : List Expr).length + ([] : List Keyword).length + (if ([] : List Keyword).isEmpty then 0 else 1) < 30)) = true := by rfl)
    (hline : (apos.endLine == cpos.line) = true := by rfl) (hst : starEach [e] X.env = (false, eval e X.env) :: starEach [] X.env := by rfl) (hplain : (backTo cpos (starEach [] X.env)).any (·.1) = false := by rfl)
    (hs : swapsWith (.Call (.Attribute (.Name x npos) "extend" apos) [e] [] cpos) none pos.line X.env = pure false := by rfl) :
    WS X ex (.Expr (.Call (.Attribute (.Name x npos) "extend" apos) [e] [] cpos) pos) ρ W := ⟨fun E σ G H S => by
  obtain ⟨a, xs, h1, h2, h3, h4, r⟩ := S.getL hr
  refine of_ps (ps_expr (pe_bm PySem.F.plainAttrs_list PySem.F.slot_list_extend PySem.F.type_list_extend mt_extend (pe_var hN hv hd hcd) (pa_cons sem_pe pa_nil hst) hbase hfew hline hst hplain) hs) ?_
  refine ⟨.ref a, h1, .inl ⟨rfl, xs, .inl (.inl h2)⟩, tSem_mono (h E σ G H S) fun v H1 ⟨G1, g, r1⟩ => ?_⟩
  have S1 := S.grow g
  obtain ⟨a', xs', h1', h2', h3', h4', r'⟩ := S1.getL hr
  rw [h1] at h1'; cases h1'
  cases r1 with
  | @lst b ys _ hb rb =>
    exact ⟨a, b, xs', ys, rfl, rfl, h2', g.gh.app _ _ hb, by rw [r'.length, rb.length]; exact hl, _, G1, S1.lstTo hr h1 h2' h3' h4' (r'.append rb), g.g, k⟩⟩
/-! ### [elt for tg in iter if .. for tg1 in iter1 if ..] -/
def picks (f : Nat → D → List D) : Nat → List D → List D
  | _, [] => []
  | k, d :: r => f k d ++ picks f (k + 1) r
omit [TbT] in
theorem picks_append (f : Nat → D → List D) : ∀ (l m : List D) (k : Nat), picks f k (l ++ m) = picks f k l ++ picks f (k + l.length) m
  | [], _, _ => rfl
  | d :: r, m, k => by
    show f k d ++ picks f (k + 1) (r ++ m) = (f k d ++ picks f (k + 1) r) ++ _
    rw [picks_append f r m (k + 1), List.append_assoc, List.length_cons, Nat.add_right_comm k 1, Nat.add_assoc]
omit [TbT] in
theorem picks_snoc (f : Nat → D → List D) (l : List D) (k : Nat) (d : D) : picks f k (l ++ [d]) = picks f k l ++ f (k + l.length) d := by
  rw [picks_append]
  show _ ++ (f _ d ++ []) = _
  rw [List.append_nil]
omit [TbT] in
theorem pick_append (f : Nat → D → Option D) : ∀ (l m : List D) (k : Nat), pick f k (l ++ m) = pick f k l ++ pick f (k + l.length) m
  | [], _, _ => rfl
  | d :: r, m, k => by
    show (_ ++ pick f (k + 1) (r ++ m)) = (_ ++ pick f (k + 1) r) ++ _
    rw [pick_append f r m (k + 1), List.append_assoc, List.length_cons, Nat.add_right_comm k 1, Nat.add_assoc]
omit [TbT] in
theorem take_add_drop {α : Type} (l : List α) (i : Nat) : l = l.take i ++ l.drop i := (List.take_append_drop i l).symm
/-- a turn of the inner clause -/
def LcIn (X : Cx) (scope : Scope) (vs1 : List Nat) (tg1 elt : Expr) (ifs1 : List Expr) (ρ2 : List O) (es : List D) (g : Nat → D → Option D) : Prop := ∀ (j : Nat) (d : D), es[j]? = some d → ∃ (ρ3 : List O) (t : Bool),
  (∀ s H cl C fp, ATb (Blk X s H scope cl C fp) vs1 tg1 d (wipeO ρ2 vs1) ρ3) ∧ (∀ s H cl C fp, ETs (Blk X s H scope cl C fp) noX ifs1 ρ3 t) ∧
  (t = true → ∃ y, g j d = some y ∧ ∀ s H cl C fp, EE (Blk X s H scope cl C fp) noX elt ρ3 y) ∧ (t = false → g j d = none)
/-- a turn of the outer one -/
def Lc2Turn (X : Cx) (scope : Scope) (vs vs1 : List Nat) (tg elt : Expr) (ifs : List Expr) (tg1 iter1 : Expr) (ifs1 : List Expr) (ρ : List O) (ds : List D) (f : Nat → D → List D) : Prop := ∀ (k : Nat) (d : D), ds[k]? = some d → ∃ (ρ2 : List O) (t : Bool),
  (∀ s H cl C fp, ATb (Blk X s H scope cl C fp) vs tg d (wipeO ρ vs) ρ2) ∧ (∀ s H cl C fp, ETs (Blk X s H scope cl C fp) noX ifs ρ2 t) ∧
  (t = true → ∃ (es : List D) (g : Nat → D → Option D), f k d = pick g 0 es ∧ (∀ s H cl C fp, EI (Blk X s H scope cl C fp) noX tg1 iter1 ρ2 es) ∧ LcIn X scope vs1 tg1 elt ifs1 ρ2 es g) ∧ (t = false → f k d = [])
omit [TbT] in
theorem wipe_wipe {σ : L2.St} (us : List Nat) : L2.wipe (L2.wipe σ us) us = L2.wipe σ us := by
  have key : ∀ (us ws : List Nat), (∀ u ∈ us, u ∈ ws) → L2.wipe (L2.wipe σ us) ws = L2.wipe σ ws := fun us => by
    induction us with
    | nil => intro ws _; rfl
    | cons u us ih =>
      intro ws hm
      show L2.wipe ((L2.wipe σ us).set u none) ws = _
      rw [wipe_set (hm u List.mem_cons_self), ih ws fun u hu => hm u (List.mem_cons_of_mem _ hu)]
  exact key us us fun _ h => h
theorem lc2_run {vs vs1 : List Nat} {scope : Scope} {elt tg iter tg1 iter1 : Expr} {ifs ifs1 : List Expr} {f : Nat → D → List D} (hI : EI X ex tg iter ρ ds) (hl : (picks f 0 ds).length ≤ sizeLine) (ht : Lc2Turn X scope vs vs1 tg elt ifs tg1 iter1 ifs1 ρ ds f) {E : Hp × Hp} {σ : L2.St} {G H : Hp} (S : SOx X ex E ρ σ G H) {Q : VK}
    (q : ∀ v G' H', Grow G H G' H' → OOk X.K H G' H' (.ml (picks f 0 ds)) v → Q v H') :
    tLc2 (tSemI X tg iter) (fun v σ H Q => ∀ s H0 cl C fp, tSemG (Blk X s H0 scope cl C fp) tg v σ H Q) (fun σ H Q => ∀ s H0 cl C fp, tSemTs (Blk X s H0 scope cl C fp) ifs σ H Q)
      (fun σ H Q => ∀ s H0 cl C fp, tSemI (Blk X s H0 scope cl C fp) tg1 iter1 σ H Q) (fun v σ H Q => ∀ s H0 cl C fp, tSemG (Blk X s H0 scope cl C fp) tg1 v σ H Q) (fun σ H Q => ∀ s H0 cl C fp, tSemTs (Blk X s H0 scope cl C fp) ifs1 σ H Q) (fun σ H Q => ∀ s H0 cl C fp, tSem (Blk X s H0 scope cl C fp) elt σ H Q) vs vs1 σ H Q := by
  refine tSemI_mono (hI E σ G H S) fun J H1 ⟨G1, g1, wk⟩ => fun DD hD => ?_
  refine ⟨fun i m H' => m = ds.length - i ∧ i ≤ ds.length ∧ ∃ G2 ys, Grow G1 H1 G2 H' ∧ H' DD = some (.lst ys) ∧ G2 DD = none ∧ RepL X.K G2 ys (picks f 0 (ds.take i)), ⟨ds.length, by simp, Nat.zero_le _, G1, [], Grow.newH g1.gh hD, upd_same, g1.gh.back hD, .nil⟩, ?_⟩
  rintro i m H' ⟨rfl, hi, G2, ys, g2, hH, hG, r⟩
  have w := wk i G2 H' g2.g g2.gh
  by_cases hlt : i < ds.length
  · obtain ⟨go, yl⟩ := w.1 ds[i] (List.getElem?_eq_getElem hlt)
    refine .inr ⟨go, fun H'' => i < ds.length ∧ ∃ G2 ys, Grow G1 H1 G2 H'' ∧ H'' DD = some (.lst ys) ∧ G2 DD = none ∧ RepL X.K G2 ys (picks f 0 (ds.take (i + 1))), fun H'' ⟨_, z⟩ => ⟨ds.length - (i + 1), by omega, rfl, hlt, z⟩, fun x H3 hy => ?_⟩
    obtain ⟨G3, g3, rx⟩ := yl x H3 hy
    obtain ⟨ρ2, t, h1, h2, h3, h4⟩ := ht i _ (List.getElem?_eq_getElem hlt)
    have gg := g2.trans g3
    have S3 : SOk X.K E (wipeO ρ vs) (L2.wipe σ vs) G3 H3 := (S.toSOk.wipe vs).grow (g1.trans gg)
    have keepD : ∀ {G0 H0 G4 H4 : Hp} {zs : List V}, G0 DD = none → H0 DD = some (.lst zs) → Grow G0 H0 G4 H4 → H4 DD = some (.lst zs) ∧ G4 DD = none := fun {G0 H0 G4 H4 zs} hG0 hH0 g => by
      refine ⟨g.h.app _ _ hH0, ?_⟩
      cases z : G4 DD with
      | none => rfl
      | some u => exact absurd (g.fr DD hG0 (by rw [z]; simp)) (by rw [hH0]; simp)
    obtain ⟨kH3, kG3⟩ := keepD hG hH g3
    have pk := picks_snoc f (ds.take i) 0 ds[i]
    rw [← take_snoc (List.getElem?_eq_getElem hlt), Nat.zero_add, List.length_take, Nat.min_eq_left hi] at pk
    have hpre : (picks f 0 (ds.take i)).length + (f i ds[i]).length ≤ sizeLine := by
      have e1 := picks_append f (ds.take (i + 1)) (ds.drop (i + 1)) 0
      rw [List.take_append_drop] at e1
      have e2 := congrArg List.length e1
      rw [List.length_append, pk, List.length_append] at e2
      omega
    intro s0 H0 cl C fp
    refine tSemG_mono (h1 s0 H0 cl C fp E _ G3 H3 x S3 rx) fun σ2 H2 ⟨⟨e, S4⟩, wq⟩ => ?_
    subst e
    refine ⟨wq.trans (wipe_wipe vs), fun s0 H0 cl C fp => tSemTs_mono (h2 s0 H0 cl C fp E σ2 G3 _ (SOk.nox (X := Blk X s0 H0 scope cl C fp) (S4 _ _ (Ex.refl _) S3))) fun b H4 ⟨eb, G4, g4⟩ => ?_⟩
    subst eb
    have at' : ∀ {G6 H6 : Hp}, Grow G1 H1 G6 H6 → Ex G3 G6 → SOk X.K E ρ2 σ2 G6 H6 := fun {G6 H6} g e => S4 G6 H6 e ((S.toSOk.wipe vs).grow (g1.trans g))
    cases b with
    | true =>
      rw [if_pos rfl]
      obtain ⟨es, g, hf, hI1, hin⟩ := h3 rfl
      obtain ⟨kH4, kG4⟩ := keepD kG3 kH3 g4
      have gt4 := gg.trans g4
      intro s0 H0 cl C fp
      refine tSemI_mono (hI1 s0 H0 cl C fp E σ2 G4 H4 (SOk.nox (X := Blk X s0 H0 scope cl C fp) (at' gt4 g4.g))) fun J1 H5 ⟨G5, g5, wk1⟩ => ?_
      obtain ⟨kH5, kG5⟩ := keepD kG4 kH4 g5
      refine ⟨fun j k H' => k = es.length - j ∧ j ≤ es.length ∧ ∃ G6 zs, Grow G1 H1 G6 H' ∧ Ex G5 G6 ∧ H' DD = some (.lst zs) ∧ G6 DD = none ∧ RepL X.K G6 zs (picks f 0 (ds.take i) ++ pick g 0 (es.take j)),
        ⟨es.length, by simp, Nat.zero_le _, G5, ys, gt4.trans g5, Ex.refl _, kH5, kG5, by rw [List.take_zero]; show RepL _ _ _ (_ ++ []); rw [List.append_nil]; exact r.mono (g3.trans (g4.trans g5)).g⟩, ?_⟩
      rintro j k H6 ⟨rfl, hj, G6, zs, g6, x6, hH6, hG6, r6⟩
      have w1 := wk1 j G6 H6 x6 g6.gh
      by_cases hlt1 : j < es.length
      · obtain ⟨go1, yl1⟩ := w1.1 es[j] (List.getElem?_eq_getElem hlt1)
        refine .inr ⟨go1, fun H'' => j < es.length ∧ ∃ G6 zs, Grow G1 H1 G6 H'' ∧ Ex G5 G6 ∧ H'' DD = some (.lst zs) ∧ G6 DD = none ∧ RepL X.K G6 zs (picks f 0 (ds.take i) ++ pick g 0 (es.take (j + 1))), fun H'' ⟨_, z⟩ => ⟨es.length - (j + 1), by omega, rfl, hlt1, z⟩, fun x1 H7 hy1 => ?_⟩
        obtain ⟨G7, g7, rx1⟩ := yl1 x1 H7 hy1
        obtain ⟨kH7, kG7⟩ := keepD hG6 hH6 g7
        obtain ⟨ρ3, t1, i1, i2, i3, i4⟩ := hin j _ (List.getElem?_eq_getElem hlt1)
        have gt7 := g6.trans g7
        have e37 : Ex G3 G7 := (g4.trans g5).g.trans (x6.trans g7.g)
        have S7 : SOk X.K E (wipeO ρ2 vs1) (L2.wipe σ2 vs1) G7 H7 := (at' gt7 e37).wipe vs1
        have pk1 := pick_snoc g (es.take j) 0 es[j]
        rw [← take_snoc (List.getElem?_eq_getElem hlt1), Nat.zero_add, List.length_take, Nat.min_eq_left hj] at pk1
        intro s0 H0 cl C fp
        refine tSemG_mono (i1 s0 H0 cl C fp E _ G7 H7 x1 S7 rx1) fun σ3 H8 ⟨⟨e, S8'⟩, wq1⟩ => ?_
        subst e
        have S8 := S8' _ _ (Ex.refl _) S7
        refine ⟨wq1.trans (wipe_wipe vs1), fun s0 H0 cl C fp => tSemTs_mono (i2 s0 H0 cl C fp E σ3 G7 _ (SOk.nox (X := Blk X s0 H0 scope cl C fp) S8)) fun b H9 ⟨eb, G9, g9⟩ => ?_⟩
        subst eb
        cases b with
        | true =>
          rw [if_pos rfl]
          obtain ⟨y, hgy, hy2⟩ := i3 rfl
          intro s0 H0 cl C fp
          refine tSem_mono (hy2 s0 H0 cl C fp E σ3 G9 H9 (SOk.nox (X := Blk X s0 H0 scope cl C fp) (S8.grow g9))) fun v H10 ⟨G10, g10, rv⟩ => ?_
          have g910 := g9.trans g10
          obtain ⟨k1, k2⟩ := keepD kG7 kH7 g910
          have gt := gt7.trans g910
          refine ⟨zs, k1, ?_, hlt1, G10, zs ++ [v], ?_, x6.trans (g7.trans g910).g, upd_same, k2, ?_⟩
          · rw [r6.length, List.length_append]
            have e1 := pick_append g (es.take (j + 1)) (es.drop (j + 1)) 0
            rw [List.take_append_drop, ← hf] at e1
            have e2 := congrArg List.length e1
            rw [List.length_append, pk1, List.length_append, hgy] at e2
            have e3 : ([y] : List D).length = 1 := rfl
            simp only [e3] at e2
            omega
          · exact ⟨gt.g, gt.h.mut hD, gt.gh.mut k2, gt.fr, fun t => tb_lst (gt.tb t) k1⟩
          · rw [pk1, hgy, ← List.append_assoc]
            exact (r6.mono (g7.trans g910).g).append (.one rv)
        | false =>
          rw [if_neg Bool.false_ne_true]
          obtain ⟨k1, k2⟩ := keepD kG7 kH7 g9
          refine ⟨hlt1, G9, zs, gt7.trans g9, x6.trans (g7.trans g9).g, k1, k2, ?_⟩
          rw [pk1, i4 rfl, List.append_nil]
          exact r6.mono (g7.trans g9).g
      · have e : j = es.length := by omega
        subst e
        rw [List.take_length, ← hf] at r6
        refine .inl ⟨w1.2 (Nat.le_refl _), hlt, G6, zs, g6, hH6, hG6, ?_⟩
        rw [pk]; exact r6
    | false =>
      rw [if_neg Bool.false_ne_true]
      obtain ⟨k1, k2⟩ := keepD kG3 kH3 g4
      refine ⟨hlt, G4, ys, gg.trans g4, k1, k2, ?_⟩
      rw [pk, h4 rfl, List.append_nil]
      exact r.mono (g3.trans g4).g
  · have e : i = ds.length := by omega
    subst e
    rw [List.take_length] at r
    refine .inl ⟨w.2 (Nat.le_refl _), q _ G2 H' (g1.trans g2) ⟨DD, ys, rfl, hH, hG, ?_, r⟩⟩
    exact g1.h.back hD
/-- .. as a value -/
theorem eo_lc2 {scope : Scope} {elt tg iter tg1 iter1 : Expr} {ifs ifs1 : List Expr} {f : Nat → D → List D} (own : List (Str × Nat)) (vs1 : List Nat) (hI : EI X ex tg iter ρ ds) (hN : X.N.Nodup) (ok : BlkOk X.N X.env.scope scope own) (hv : ∀ i ∈ vs1, i ∈ own.map (·.2)) (hl : (picks f 0 ds).length ≤ sizeLine) (ht : Lc2Turn X scope (own.map (·.2)) vs1 tg elt ifs tg1 iter1 ifs1 ρ ds f) (hc : X.calm = true := by rfl)
    (hs : ∀ x, foldedSetIterable iter X.env x = pure x := by intro _; rfl) (hs1 : ∀ env x, foldedSetIterable iter1 env x = pure x := by intro _ _; rfl) :
    EO X ex (.ListComp elt [⟨tg, iter, ifs, 0⟩, ⟨tg1, iter1, ifs1, 0⟩] scope pos) ρ (fun o => o = .ml (picks f 0 ds)) := ⟨fun E σ G H S =>
  of_pe (pe_lc2 hc hN sem_pi ok hv (fun s H C cl fp => ⟨fun pins s1 σ H v u Q I r h => h s _ cl C fp pins s1 u I r⟩) (fun s H C cl fp => ⟨fun pins s1 σ H Q I h => h s _ cl C fp pins s1 I⟩)
      (fun s H C cl fp => ⟨fun pins s1 σ H Q I h => h s _ cl C fp pins s1 I⟩) (fun s H C cl fp => ⟨fun pins s1 σ H v u Q I r h => h s _ cl C fp pins s1 u I r⟩) (fun s H C cl fp => ⟨fun pins s1 σ H Q I h => h s _ cl C fp pins s1 I⟩) (fun s H C cl fp => ⟨fun pins s1 σ H Q I h => h s _ cl C fp pins s1 I⟩) hs hs1)
    (lc2_run hI hl ht S fun v G' H' g o => ⟨_, G', g, o, rfl⟩)⟩
/-- x = .. on one line -/
theorem ws_setLc2 (i : Nat) {y : Str} {py spos : Pos} {scope : Scope} {elt tg iter tg1 iter1 : Expr} {ifs ifs1 : List Expr} {f : Nat → D → List D} (own : List (Str × Nat)) (vs1 : List Nat) (hI : EI X ex tg iter ρ ds) (hN : X.N.Nodup) (ok : BlkOk X.N X.env.scope scope own) (hv : ∀ i ∈ vs1, i ∈ own.map (·.2)) (hl : (picks f 0 ds).length ≤ sizeLine) (ht : Lc2Turn X scope (own.map (·.2)) vs1 tg elt ifs tg1 iter1 ifs1 ρ ds f)
    (k : W.nx (ρ.set i (.ml (picks f 0 ds)))) (hc : X.calm = true := by rfl) (hy : X.N[i]? = some y := by rfl) (hyl : X.env.scope.names.lookup y = some .local := by rfl) (hsw : swapsWith (.ListComp elt [⟨tg, iter, ifs, 0⟩, ⟨tg1, iter1, ifs1, 0⟩] scope pos) (some (.Name y py)) spos.line X.env = pure true := by exact sw_true rfl rfl rfl rfl)
    (hs : ∀ x, foldedSetIterable iter X.env x = pure x := by intro _; rfl) (hs1 : ∀ env x, foldedSetIterable iter1 env x = pure x := by intro _ _; rfl) :
    WS X ex (.Assign [.Name y py] (.ListComp elt [⟨tg, iter, ifs, 0⟩, ⟨tg1, iter1, ifs1, 0⟩] scope pos) spos) ρ W := ⟨fun E σ G H S =>
  of_ps (ps_setLc2 hc hN hy hyl hsw sem_pi ok hv (fun s H C cl fp => ⟨fun pins s1 σ H v u Q I r h => h s _ cl C fp pins s1 u I r⟩) (fun s H C cl fp => ⟨fun pins s1 σ H Q I h => h s _ cl C fp pins s1 I⟩)
      (fun s H C cl fp => ⟨fun pins s1 σ H Q I h => h s _ cl C fp pins s1 I⟩) (fun s H C cl fp => ⟨fun pins s1 σ H v u Q I r h => h s _ cl C fp pins s1 u I r⟩) (fun s H C cl fp => ⟨fun pins s1 σ H Q I h => h s _ cl C fp pins s1 I⟩) (fun s H C cl fp => ⟨fun pins s1 σ H Q I h => h s _ cl C fp pins s1 I⟩) hs hs1)
    (lc2_run hI hl ht S fun v G' H' g o => ⟨_, G', set_own S.toSOk g o i, g.g, k⟩)⟩
/-! ### comprehensions' results -/
omit [TbT] in
theorem pick_some {F : D → D} : ∀ (ds : List D) (k : Nat), pick (fun _ d => some (F d)) k ds = ds.map F
  | [], _ => rfl
  | d :: ds, k => by
    show [F d] ++ pick (fun _ d => some (F d)) (k + 1) ds = _
    rw [pick_some ds (k + 1)]; rfl
/-- a comprehension's item from an int -/
def iF (F : Int → Int) : Nat → D → Option D := fun _ d => match d with | .int n => some (.int (F n)) | _ => none
omit [TbT] in
theorem pick_ints {F : Int → Int} : ∀ (ns : List Int) (k : Nat), pick (iF F) k (ns.map .int) = (ns.map F).map .int
  | [], _ => rfl
  | n :: ns, k => by
    show [D.int (F n)] ++ pick (iF F) (k + 1) (ns.map .int) = _
    rw [pick_ints ns (k + 1)]; rfl
omit [TbT] in
theorem range_flat {β : Type} (f : Nat → List β) (m : Nat) : (List.range (m + 1)).flatMap f = (List.range m).flatMap f ++ f m := by
  rw [List.range_succ, List.flatMap_append]; simp
omit [TbT] in
theorem pick_filter {α : Type} {f : α → D} {p : α → Bool} {g : Nat → D → Option D} : ∀ (l : List α) (k : Nat), (∀ k x, g k (f x) = if p x then some (f x) else none) → pick g k (l.map f) = (l.filter p).map f
  | [], _, _ => rfl
  | x :: l, k, h => by
    rw [List.map_cons, List.filter_cons]
    show (match g k (f x) with | some y => [y] | none => []) ++ pick g (k + 1) (l.map f) = _
    rw [pick_filter l (k + 1) h, h]
    cases p x <;> rfl
end
end TG
/-! Fractions as rational numbers. -/
namespace TG
/-- a fraction in lowest terms as data -/
abbrev rq (q : Rat) : D := fr q.num (q.den : Int)
theorem rq_pos (q : Rat) : 0 < (q.den : Int) := by have := q.den_pos; omega
theorem rq_ne (q : Rat) : (q.den : Int) ≠ 0 := Int.ne_of_gt (rq_pos q)
theorem rq_gcd (q : Rat) : Int.gcd q.num (q.den : Int) = 1 := q.reduced
theorem rq_cross {n d : Int} (h : d ≠ 0) : (Rat.divInt n d).num * d = n * ((Rat.divInt n d).den : Int) := by
  have e := Rat.num_divInt_den (Rat.divInt n d)
  exact (Rat.divInt_eq_divInt_iff (rq_ne _) h).mp e
theorem rq_frac {n d : Int} (h : d ≠ 0) : fr (fN n d) (fD n d) = rq (Rat.divInt n d) := by
  obtain ⟨h1, h2⟩ := fr_eq (rq_pos (Rat.divInt n d)) (rq_gcd _) h (rq_cross h)
  rw [h1, h2]
theorem rq_inj {p q : Rat} (h1 : p.num = q.num) (h2 : p.den = q.den) : p = q := Rat.ext h1 h2
/-- its numbers are small -/
structure Rz (k : Nat) (q : Rat) : Prop where
  num : Sz k q.num
  den : Sz k (q.den : Int)
theorem Rz.mono {k j : Nat} {q : Rat} (h : Rz k q) (l : k ≤ j) : Rz j q := ⟨h.num.mono l, h.den.mono l⟩
theorem rz_divInt {k : Nat} {n d : Int} (h : d ≠ 0) (hn : Sz k n) (hd : Sz k d) : Rz k (Rat.divInt n d) := by
  obtain ⟨h1, h2⟩ := fr_eq (rq_pos (Rat.divInt n d)) (rq_gcd _) h (rq_cross h)
  have := fr_ok h hn hd
  rw [h1, h2] at this
  exact ⟨this.num, this.den⟩
theorem rat_add {p q : Rat} : Rat.divInt (p.num * q.den + q.num * p.den) (p.den * q.den) = p + q := by
  rw [← Rat.divInt_add_divInt _ _ (rq_ne p) (rq_ne q), Rat.num_divInt_den, Rat.num_divInt_den]
theorem rat_sub {p q : Rat} : Rat.divInt (p.num * q.den - q.num * p.den) (p.den * q.den) = p - q := by
  rw [← Rat.divInt_sub_divInt _ _ (rq_ne p) (rq_ne q), Rat.num_divInt_den, Rat.num_divInt_den]
theorem rat_mul {p q : Rat} : Rat.divInt (p.num * q.num) (p.den * q.den) = p * q := by
  rw [← Rat.divInt_mul_divInt, Rat.num_divInt_den, Rat.num_divInt_den]
theorem Rz.add {m n : Nat} {p q : Rat} (h : Rz m p) (k : Rz n q) : Rz (m + n + 1) (p + q) := by
  rw [← rat_add]
  exact rz_divInt (mul_ne (rq_ne p) (rq_ne q)) (((h.num.mul k.den).add (k.num.mul h.den)).mono (by omega)) ((h.den.mul k.den).mono (by omega))
theorem Rz.sub {m n : Nat} {p q : Rat} (h : Rz m p) (k : Rz n q) : Rz (m + n + 1) (p - q) := by
  rw [← rat_sub]
  exact rz_divInt (mul_ne (rq_ne p) (rq_ne q)) (((h.num.mul k.den).sub (k.num.mul h.den)).mono (by omega)) ((h.den.mul k.den).mono (by omega))
theorem Rz.mul {m n : Nat} {p q : Rat} (h : Rz m p) (k : Rz n q) : Rz (m + n) (p * q) := by
  rw [← rat_mul]
  exact rz_divInt (mul_ne (rq_ne p) (rq_ne q)) (h.num.mul k.num) (h.den.mul k.den)
theorem Rz.neg {m : Nat} {p : Rat} (h : Rz m p) : Rz m (-p) := ⟨h.num.neg, h.den⟩
theorem rz_int {m : Nat} {i : Int} (h : Sz m i) (hm : 0 < m := by decide) : Rz m (i : Rat) := ⟨h, by
  show Sz m 1
  have : 2 ^ 1 ≤ 2 ^ m := Nat.pow_le_pow_right (by decide) hm
  unfold Sz; show 1 < _; omega⟩
theorem rq_int (i : Int) : rq (i : Rat) = fr i 1 := rfl
theorem rq_zero : rq 0 = fr 0 1 := rfl
theorem rq_one : rq 1 = fr 1 1 := rfl
theorem rq_neg {p : Rat} : rq (-p) = fr (0 - p.num) p.den := by
  rw [Int.zero_sub]; rfl
theorem rat_div {n d : Int} : Rat.divInt n d = (n : Rat) / (d : Rat) := Rat.divInt_eq_div n d
theorem rat_den {p : Rat} : ((p.den : Int) : Rat) ≠ 0 := by
  intro h
  have : (p.den : Int) = 0 := by exact_mod_cast h
  exact rq_ne p this
theorem rat_num {p : Rat} : (p.num : Rat) = p * ((p.den : Int) : Rat) := by
  have h := Rat.num_divInt_den p
  rw [rat_div] at h
  have k := Rat.div_mul_cancel (a := (p.num : Rat)) (rat_den (p := p))
  rw [h] at k
  exact k.symm
theorem rat_eq_div {p : Rat} {n d : Int} (h : d ≠ 0) (e : (n : Rat) = p * (d : Rat)) : Rat.divInt n d = p := by
  have hd : (d : Rat) ≠ 0 := by
    intro z
    exact h (by exact_mod_cast z)
  rw [rat_div, e, Rat.mul_div_cancel hd]
theorem rat_led {a b : Int} {p q : Rat} : Rat.divInt (a * (p.num * q.den) + b * (q.num * p.den)) (p.den * q.den) = a * p + b * q := by
  refine rat_eq_div (mul_ne (rq_ne p) (rq_ne q)) ?_
  rw [Rat.intCast_add, Rat.intCast_mul, Rat.intCast_mul, Rat.intCast_mul, Rat.intCast_mul, Rat.intCast_mul, @rat_num p, @rat_num q]
  generalize ((p.den : Int) : Rat) = u
  generalize ((q.den : Int) : Rat) = v
  generalize (a : Rat) = a
  generalize (b : Rat) = b
  grind
theorem Sz.nn2 {n : Nat} {x : Int} (lo hi : Int) (h : lo ≤ x ∧ x ≤ hi) (hl : (-(2 ^ n : Int) < lo) ∧ hi < (2 ^ n : Int)) : Sz n x := by
  unfold Sz
  have : ((2 ^ n : Nat) : Int) = (2 : Int) ^ n := by simp
  omega
theorem rz0 : Rz 1 0 := ⟨sz_lit rfl, sz_lit rfl⟩
theorem sz_num {n : Int} : Sz (n.natAbs.log2 + 1) n := by
  unfold Sz
  by_cases h : n.natAbs = 0
  · rw [h]; decide
  · exact (Nat.log2_lt h).mp (Nat.lt_succ_self _)
theorem plains_map {α : Type} {f : α → D} (hf : ∀ x, (f x).plain = true) : ∀ l : List α, D.plains (l.map f) = true
  | [] => rfl
  | x :: l => by
    show (D.plain (f x) && D.plains (l.map f)) = true
    rw [hf x, plains_map hf l]; rfl
theorem depths_map {α : Type} {f : α → D} {n : Nat} (hf : ∀ x, (f x).depth ≤ n) : ∀ {l : List α}, D.depths (l.map f) ≤ n
  | [] => Nat.zero_le _
  | x :: l => Nat.max_le.mpr ⟨hf x, depths_map hf⟩
theorem rq_eqv (p q : Rat) : D.eqv (rq p) (rq q) = decide (p = q) := by
  have e : D.eqv (rq p) (rq q) = (p.num == q.num && (((p.den : Int) == (q.den : Int)) && true)) := rfl
  rw [e, Bool.eq_iff_iff]
  simp only [Bool.and_eq_true, beq_iff_eq, and_true, decide_eq_true_eq]
  constructor
  · rintro ⟨h1, h2⟩; exact Rat.ext h1 (by omega)
  · rintro rfl; exact ⟨rfl, rfl⟩
end TG
namespace My
open PySem PySem.Spec PyProof.Rows L2 TG
instance : TbT := ⟨[]⟩
def topS (i : Nat) : Stmt := PySem.Challenge.pw_tilesglued_k09_costs_and_signatures.main.body.getD i (.Pass ⟨0, 0, 0, 0⟩)
abbrev s_common_divisor : Stmt := topS 1
abbrev s_fraction : Stmt := topS 2
abbrev s_plus : Stmt := topS 3
abbrev s_cost : Stmt := topS 6
abbrev s_ascending_rows : Stmt := topS 7
abbrev s_all_signatures : Stmt := topS 8
abbrev s__law_cell : Stmt := topS 10
abbrev s__law_numbers : Stmt := topS 11
abbrev s__law_same : Stmt := topS 12
abbrev s__law_gcd : Stmt := topS 13
abbrev s__law_frac : Stmt := topS 14
abbrev s__law_add : Stmt := topS 15
abbrev s__law_price : Stmt := topS 16
abbrev s__law_rows : Stmt := topS 17
abbrev s__law_all : Stmt := topS 18
abbrev s_law : Stmt := topS 19
structure Txt (K : PySem.W.Frag) (mg : Str → Option Value) : Prop where
  d_common_divisor : DefT K mg "common_divisor" s_common_divisor ["a", "b"] []
  d_fraction : DefT K mg "fraction" s_fraction ["n", "d"] [V.int 1]
  d_plus : DefT K mg "plus" s_plus ["f", "g"] []
  d_cost : DefT K mg "cost" s_cost ["signature"] []
  d_ascending_rows : DefT K mg "ascending_rows" s_ascending_rows ["length", "least", "most"] []
  d_all_signatures : DefT K mg "all_signatures" s_all_signatures [] []
  d__law_cell : DefT K mg "_law_cell" s__law_cell ["script", "k"] []
  d__law_numbers : DefT K mg "_law_numbers" s__law_numbers ["cell", "count"] []
  d__law_same : DefT K mg "_law_same" s__law_same ["actual", "due"] []
  d__law_gcd : DefT K mg "_law_gcd" s__law_gcd ["a", "b"] []
  d__law_frac : DefT K mg "_law_frac" s__law_frac ["n", "d"] []
  d__law_add : DefT K mg "_law_add" s__law_add ["f", "g"] []
  d__law_price : DefT K mg "_law_price" s__law_price ["turning", "corners"] []
  d__law_rows : DefT K mg "_law_rows" s__law_rows [] []
  d__law_all : DefT K mg "_law_all" s__law_all [] []
  d_law : DefT K mg "law" s_law ["script"] []
  m_abs : mg "abs" = none
  m_bool : mg "bool" = none
  m_int : mg "int" = none
  m_isinstance : mg "isinstance" = none
  m_len : mg "len" = none
  m_list : mg "list" = none
  m_range : mg "range" = none
  m_sorted : mg "sorted" = none
  m_str : mg "str" = none
  m_sum : mg "sum" = none
  m_tuple : mg "tuple" = none
  c_UNIT : ConT K mg "UNIT" (.int 120)
local macro_rules | `(tactic| walk_at "tg le") => `(tactic| ((repeat (first | exact Le.nil | exact Le.refl _ | refine Le.un ?_ | refine Le.eq ?_)); done))
local macro_rules | `(tactic| walk_at "tg return") => `(tactic| first | assumption | exact hQ)
local macro_rules | `(tactic| walk_at "tg mod") => `(tactic| first | decide | omega)
local macro_rules | `(tactic| walk_at "tg div") => `(tactic| first | exact ⟨by decide, by decide⟩)
local macro_rules | `(tactic| walk_at "tg cmp") => `(tactic| first | rfl | assumption | decide +kernel)
local macro_rules | `(tactic| walk_at "tg cat") => `(tactic| first | exact cat_ok rfl)
local macro_rules | `(tactic| walk_at "tg size") => `(tactic| first | exact len_ok rfl)
local macro_rules | `(tactic| walk_at "tg szc") => `(tactic| first | assumption | (apply Sz.mul <;> walk_at "tg szc") | (apply Sz.add <;> walk_at "tg szc") | (apply Sz.sub <;> walk_at "tg szc") | (apply Sz.neg <;> walk_at "tg szc") | exact sz_num)
local macro_rules | `(tactic| walk_at "tg sz") => `(tactic| first | assumption | (apply Sz.mono; (walk_at "tg szc"); (first | decide | omega)))
local macro_rules | `(tactic| walk_at "tg rzc") => `(tactic| first | assumption | (apply Rz.mul <;> walk_at "tg rzc") | (apply Rz.add <;> walk_at "tg rzc") | (apply Rz.sub <;> walk_at "tg rzc") | (apply Rz.neg <;> walk_at "tg rzc") | exact rz0 | (apply rz_int; (walk_at "tg szc"); (first | decide | omega)))
local macro_rules | `(tactic| walk_at "tg rz") => `(tactic| first | assumption | (apply Rz.mono; (walk_at "tg rzc"); (first | decide | omega)))
local macro_rules | `(tactic| walk_at "tg pre") => `(tactic| ((repeat' (refine And.intro ?_ ?_)) <;> first | trivial | assumption | walk_at "tg sz" | walk_at "tg rz" | omega | decide))
local macro_rules | `(tactic| walk_at "tg mul") => `(tactic| (apply Sz.mulW <;> first | walk_at "tg szc" | decide | omega))
local macro_rules | `(tactic| walk_at "tg plains") => `(tactic| first | rfl | (simp only [plains_map]; done) | assumption)
local macro_rules | `(tactic| walk_at "tg depths") => `(tactic| first | (exact Nat.le_of_ble_eq_true rfl) | (refine Nat.le_trans (depths_map ?_) (Nat.le_of_ble_eq_true rfl); intro _; exact Nat.le_of_ble_eq_true rfl) | assumption)
local macro_rules | `(tactic| walk_at "tg tyn") => `(tactic| first | (simp [D.tyN]; done) | assumption)

abbrev rwD (r : List Int) : D := .tup (r.map .int)
def unr : D → List Int
  | .tup ds => ds.map fun d => match d with | .int i => i | _ => 0
  | _ => []
theorem unr_rw (r : List Int) : unr (rwD r) = r := by
  show (r.map D.int).map _ = r
  rw [List.map_map]
  exact (List.map_congr_left fun x _ => rfl).trans (List.map_id r)
theorem rw_cmp (r : List Int) : (rwD r).cmp = true := by
  unfold D.cmp
  rw [show (rwD r).plain = true from plains_map (fun _ => rfl) r, decide_eq_true (show (rwD r).depth ≤ 64 from Nat.le_trans (Nat.succ_le_succ (depths_map (n := 0) fun _ => Nat.le_refl _)) (by decide))]; rfl
def okN (r : List Int) (n : Int) : Bool := decide (r = []) || decide (r.getLastD 0 ≤ n)
theorem rw_nil (r : List Int) : D.eqv (rwD r) (.tup []) = decide (r = []) := by
  cases r with
  | nil => rfl
  | cons x r => rfl
theorem last_at {r : List Int} (h : r ≠ []) : atI (r.map D.int) (-1) = some (.int (r.getLastD 0)) := by
  obtain ⟨m, x, rfl⟩ : ∃ m x, r = m ++ [x] := ⟨r.dropLast, r.getLast h, (List.dropLast_concat_getLast h).symm⟩
  unfold L2.atI
  have e : L2.ixN ((m ++ [x]).map D.int).length (-1) = some m.length := by
    unfold L2.ixN
    simp
    omega
  rw [e]
  simp
/-- the package's rows -/
def ns5 : List Int := [2, 3, 4, 5, 6]
def stepA (r : List Int) : List (List Int) := (ns5.filter (okN r)).map fun n => r ++ [n]
def lastA : Nat → List (List Int)
  | 0 => [[]]
  | k + 1 => (lastA k).flatMap stepA
def rowsA : Nat → List (List Int)
  | 0 => [[]]
  | k + 1 => rowsA k ++ lastA (k + 1)
def inner (r : List Int) : Nat → D → Option D := fun _ d => match d with | .int n => (if okN r n = true then some (.tup (r.map .int ++ [.int n])) else none) | _ => none
def outer_ : Nat → D → List D := fun _ d => pick (inner (unr d)) 0 (ns5.map .int)
theorem pick_inner (r : List Int) : ∀ (ns : List Int) (k : Nat), pick (inner r) k (ns.map .int) = ((ns.filter (okN r)).map fun n => r ++ [n]).map rwD
  | [], _ => rfl
  | n :: ns, k => by
    show (match (if okN r n = true then some (.tup (r.map .int ++ [.int n])) else none) with | some y => [y] | none => []) ++ pick (inner r) (k + 1) (ns.map .int) = _
    rw [pick_inner r ns (k + 1), List.filter_cons]
    cases okN r n with
    | false => rfl
    | true => simp [rwD]
theorem picks_outer : ∀ (l : List (List Int)) (k : Nat), picks outer_ k (l.map rwD) = (l.flatMap stepA).map rwD
  | [], _ => rfl
  | r :: l, k => by
    show outer_ k (rwD r) ++ picks outer_ (k + 1) (l.map rwD) = _
    rw [picks_outer l (k + 1), List.flatMap_cons, List.map_append]
    congr 1
    show pick (inner (unr (rwD r))) 0 (ns5.map .int) = _
    rw [unr_rw, pick_inner]; rfl
theorem rows_next (k : Nat) : (rowsA k).map rwD ++ ((lastA k).flatMap stepA).map rwD = (rowsA (k + 1)).map rwD := by rw [← List.map_append]; rfl
theorem range5 : upTo 2 ((6 : Int) + 1 - 2).toNat = ns5.map .int := rfl
theorem lastA_mem : ∀ k, k < 4 → ∀ r ∈ lastA k, r.length ≤ 10 := by decide +kernel
theorem lastA_len : ∀ k, k < 4 → (lastA (k + 1)).length ≤ 100 ∧ (rowsA k).length + (lastA (k + 1)).length ≤ 200 := by decide +kernel

/-! the package's signatures -/
abbrev Sg := List Int × List Int × Int × Int × Int
abbrev En := List Int × Int
abbrev enD (e : En) : D := .tup [rwD e.1, .int e.2]
abbrev sgD (s : Sg) : D := .tup [rwD s.1, rwD s.2.1, .int s.2.2.1, .int s.2.2.2.1, .int s.2.2.2.2]
def prA (r : List Int) : Int := (r.map fun n => (120 * (n - 1)).fdiv n).sum
def rowsP : List En := (rowsA 4).map fun r => (r, prA r)
def rowsF : List En := rowsP.filter fun e => decide (e.2 ≤ 2 * 120)
def mis (e1 e2 : En) (m : Nat) : Int := 2 * 120 - e1.2 - e2.2 / 2 - (m : Int) * 120
def sigA (e1 e2 : En) (m : Nat) : List Sg :=
  if (decide (0 ≤ mis e1 e2 m) && (decide (mis e1 e2 m % 120 = 0) && (decide (0 < (m : Int)) || decide (e2.1 = [])))) = true then
    (e1.1, e2.1, (m : Int), (mis e1 e2 m).fdiv 120, 0) :: (if decide (mis e1 e2 m = 2 * 120) = true then [(e1.1, e2.1, (m : Int), 0, 1)] else []) else []
def midA (e1 e2 : En) : List Sg := (List.range 3).flatMap (sigA e1 e2)
def outA (e1 : En) : List Sg := rowsF.flatMap (midA e1)
def foundA : List Sg := rowsF.flatMap outA
theorem rowsF_len : rowsF.length ≤ 50 := by decide +kernel
theorem rowsF_ok : ∀ e ∈ rowsF, 0 ≤ e.2 ∧ e.2 ≤ 240 := by decide +kernel
theorem rowsA_ok : ∀ r ∈ rowsA 4, r.length ≤ 10 ∧ ∀ n ∈ r, 2 ≤ n ∧ n ≤ 6 := by decide +kernel
theorem rowsA_len : (rowsA 4).length ≤ 1000 := by decide +kernel
theorem sigA_len (e1 e2 : En) (m : Nat) : (sigA e1 e2 m).length ≤ 2 := by
  unfold sigA
  split
  · split <;> simp
  · simp
theorem midA_len (e1 e2 : En) : (midA e1 e2).length ≤ 6 := flat_len (n := 2) fun m => sigA_len e1 e2 m
theorem outA_len (e1 : En) : (outA e1).length ≤ 300 := Nat.le_trans (flat_len (n := 6) fun e2 => midA_len e1 e2) (by have := rowsF_len; omega)
theorem len_of {l : List Sg} {i : Nat} (f : En → List Sg) {n m : Nat} (hl : l.length ≤ n) (hm : m ≤ 50) {xs : List Sg} (hx : xs.length ≤ m) : (l ++ xs).length ≤ n + 50 := by rw [List.length_append]; omega
theorem rows_first : pick (fun _ d => some (enD (unr d, prA (unr d)))) 0 ((rowsA 4).map rwD) = rowsP.map enD := by
  rw [pick_some (F := fun d => enD (unr d, prA (unr d)))]
  unfold rowsP
  rw [List.map_map, List.map_map]
  exact List.map_congr_left fun r _ => by
    show enD (unr (rwD r), prA (unr (rwD r))) = enD (r, prA r)
    rw [unr_rw]
theorem rows_second : pick (fun _ d => match d with | .tup [_, .int p] => (if decide (p ≤ 2 * 120) = true then some d else none) | _ => none) 0 (rowsP.map enD) = rowsF.map enD := pick_filter rowsP 0 fun _ _ => rfl
theorem alike_ints : ∀ r s : List Int, PySem.W.alikeAll (D.pys (r.map .int)) (D.pys (s.map .int)) = true
  | [], _ => by unfold PySem.W.alikeAll; rfl
  | _ :: _, [] => rfl
  | _ :: r, _ :: s => alike_ints r s
theorem sg_alike (a b : Sg) : PySem.W.alike (sgD a).py (sgD b).py = true := by
  show (PySem.W.alikeAll (D.pys (a.1.map .int)) (D.pys (b.1.map .int)) && (PySem.W.alikeAll (D.pys (a.2.1.map .int)) (D.pys (b.2.1.map .int)) && _)) = true
  rw [alike_ints, alike_ints]; rfl
theorem eqv_ints : ∀ {r s : List Int}, PyData.eqvAll (D.pys (r.map .int)) (D.pys (s.map .int)) = true → r = s
  | [], [], _ => rfl
  | [], _ :: _, h => by cases h
  | _ :: _, [], h => by cases h
  | x :: r, y :: s, h => by
    have h' : (x == y && PyData.eqvAll (D.pys (r.map .int)) (D.pys (s.map .int))) = true := h
    rw [Bool.and_eq_true] at h'
    rw [eq_of_beq h'.1, eqv_ints h'.2]
theorem sg_inj {a b : Sg} (h : D.eqv (sgD a) (sgD b) = true) : a = b := by
  have h' : (PyData.eqvAll (D.pys (a.1.map .int)) (D.pys (b.1.map .int)) && (PyData.eqvAll (D.pys (a.2.1.map .int)) (D.pys (b.2.1.map .int)) && (a.2.2.1 == b.2.2.1 && (a.2.2.2.1 == b.2.2.2.1 && (a.2.2.2.2 == b.2.2.2.2 && true))))) = true := h
  simp only [Bool.and_eq_true, beq_iff_eq, and_true] at h'
  obtain ⟨h1, h2, h3, h4, h5⟩ := h'
  obtain ⟨a1, a2, a3, a4, a5⟩ := a
  obtain ⟨b1, b2, b3, b4, b5⟩ := b
  have e1 := eqv_ints h1
  have e2 := eqv_ints h2
  simp only at e1 e2 h3 h4 h5
  rw [e1, e2, h3, h4, h5]
theorem sg_plain (x : Sg) : (sgD x).plain = true := by
  show (D.plains (x.1.map .int) && (D.plains (x.2.1.map .int) && true)) = true
  rw [plains_map (fun _ => rfl), plains_map (fun _ => rfl)]; rfl
theorem sg_depth (x : Sg) : (sgD x).depth ≤ 2 := by
  have h : ∀ r : List Int, (rwD r).depth ≤ 1 := fun r => Nat.succ_le_succ (depths_map (n := 0) fun _ => Nat.le_refl _)
  have h1 := h x.1
  have h2 := h x.2.1
  show max (rwD x.1).depth (max (rwD x.2.1).depth 0) + 1 ≤ 2
  omega

/-! the law's signatures -/
def prB (e : En) (n : Int) : Int := e.2 + (27720 * (n - 1)).fdiv n
def addB (e : En) (n : Int) : List En := if (decide (e.1 = []) || decide (e.1.getLastD 0 ≤ n)) = true then (if decide (prB e n ≤ 2 * 27720) = true then [(e.1 ++ [n], prB e n)] else []) else []
def stepB (e : En) : List En := (List.range 11).flatMap fun j : Nat => addB e (2 + (j : Int))
def lastB : Nat → List En
  | 0 => [([], 0)]
  | k + 1 => (lastB k).flatMap stepB
def rowsB : Nat → List En
  | 0 => [([], 0)]
  | k + 1 => rowsB k ++ lastB (k + 1)
theorem lastB_len : ∀ k, k < 4 → (rowsB k).length ≤ 1000 ∧ (lastB k).length ≤ 100 ∧ (lastB (k + 1)).length ≤ 100 ∧ ∀ e ∈ lastB k, e.1.length ≤ 10 ∧ 0 ≤ e.2 ∧ e.2 ≤ 2 * 27720 := by decide +kernel
theorem rowsB_ok : (rowsB 4).length ≤ 120 ∧ ∀ e ∈ rowsB 4, 0 ≤ e.2 ∧ e.2 ≤ 2 * 27720 := by decide +kernel
theorem addB_len (e : En) (n : Int) : (addB e n).length ≤ 1 := by
  unfold addB
  split
  · split <;> simp
  · simp
theorem stepB_len (e : En) : (stepB e).length ≤ 11 := flat_len (n := 1) fun j => addB_len e _
def misB (e1 e2 : En) (m : Nat) : Int := 4 * 27720 - e1.2 * 2 - e2.2 - (m : Int) * 2 * 27720
def sigB (e1 e2 : En) (m : Nat) : List Sg :=
  if (decide (0 ≤ misB e1 e2 m) && (decide (misB e1 e2 m % (2 * 27720) = 0) && (decide (0 < (m : Int)) || decide (e2.1 = [])))) = true then
    (e1.1, e2.1, (m : Int), (misB e1 e2 m).fdiv (2 * 27720), 0) :: (if decide ((misB e1 e2 m).fdiv (2 * 27720) = 2) = true then [(e1.1, e2.1, (m : Int), 0, 1)] else []) else []
def midB (e1 e2 : En) : List Sg := if decide (e1.2 * 2 + e2.2 ≤ 4 * 27720) = true then (List.range 3).flatMap (sigB e1 e2) else []
def outB (e1 : En) : List Sg := (rowsB 4).flatMap (midB e1)
def foundB : List Sg := (rowsB 4).flatMap outB
theorem sigB_len (e1 e2 : En) (m : Nat) : (sigB e1 e2 m).length ≤ 2 := by
  unfold sigB
  split
  · split <;> simp
  · simp
theorem midB_len (e1 e2 : En) : (midB e1 e2).length ≤ 6 := by
  unfold midB
  split
  · exact flat_len (n := 2) fun m => sigB_len e1 e2 m
  · simp
theorem outB_len (e1 : En) : (outB e1).length ≤ 720 := Nat.le_trans (flat_len (n := 6) fun e2 => midB_len e1 e2) (by have := rowsB_ok.1; omega)
theorem found_perm : foundA.Perm foundB := by decide +kernel
theorem found_len : foundB.length = 17 := by decide +kernel
theorem found_same : srt (foundA.map sgD) = srt (foundB.map sgD) := srt_perm found_perm sg_alike fun _ _ h => sg_inj h
theorem due_same : D.plain (.lst (srt (foundB.map sgD))) = true ∧ D.depth (.lst (srt (foundB.map sgD))) ≤ 8 := by
  rw [srt_map]
  exact ⟨plains_map sg_plain _, Nat.le_trans (Nat.succ_le_succ (depths_map sg_depth)) (by decide)⟩

/-! costs -/
def accR (f : Int → Rat) (q : Rat) (l : List Int) : Rat := l.foldl (fun q n => q + f n) q
theorem accR_shift (f : Int → Rat) : ∀ (l : List Int) (q : Rat), accR f q l = q + accR f 0 l
  | [], q => (Rat.add_zero q).symm
  | n :: l, q => by
    show accR f (q + f n) l = q + accR f (0 + f n) l
    rw [accR_shift f l (q + f n), accR_shift f l (0 + f n), Rat.zero_add, Rat.add_assoc]
theorem accR_next (f : Int → Rat) (q : Rat) {l : List Int} {k : Nat} (h : k < l.length) : accR f q (l.take (k + 1)) = accR f q (l.take k) + f (l.getD k 0) := by
  unfold accR
  rw [take_getD 0 h, List.foldl_append]; rfl
def fT (n : Int) : Rat := Rat.divInt (n - 1) n
def fC (n : Int) : Rat := Rat.divInt (n - 1) (2 * n)
def OrdL (l : List Int) : Prop := l.length ≤ 4 ∧ ∀ n ∈ l, 2 ≤ n ∧ n ≤ 60
theorem fT_rz {n : Int} (h : 2 ≤ n ∧ n ≤ 60) : Rz 8 (fT n) := rz_divInt (by omega) (Sz.nn (by omega) (by omega)) (Sz.nn (by omega) (by omega))
theorem fC_rz {n : Int} (h : 2 ≤ n ∧ n ≤ 60) : Rz 8 (fC n) := rz_divInt (by omega) (Sz.nn (by omega) (by omega)) (Sz.nn (by omega) (by omega))
theorem acc_rz {f : Int → Rat} {l : List Int} (hl : OrdL l) (hf : ∀ n : Int, 2 ≤ n ∧ n ≤ 60 → Rz 8 (f n)) {m : Nat} {q : Rat} (hq : Rz m q) : ∀ k, k ≤ l.length → Rz (m + 9 * k) (accR f q (l.take k))
  | 0, _ => hq
  | k + 1, h => by
    rw [accR_next f q (by omega)]
    exact ((acc_rz hl hf hq k (by omega)).add (hf _ (hl.2 _ (TG.getD_mem (by omega))))).mono (by omega)
theorem ord_sorted {ns : List Int} (h : OrdL ns) : ∃ T : List Int, srt (ns.map .int) = T.map .int ∧ OrdL T := by
  refine ⟨_, srt_map ns, ?_, fun n hn => h.2 n (List.mem_mergeSort.mp hn)⟩
  rw [List.length_mergeSort]; exact h.1
def ordN (n : Int) : Int := 2 + n % 59
theorem ord_of {ns : List Int} (h : ns.length ≤ 4) : OrdL (ns.map ordN) := by
  refine ⟨by rw [List.length_map]; exact h, fun n hn => ?_⟩
  obtain ⟨m, _, rfl⟩ := List.mem_map.mp hn
  unfold ordN; omega
theorem cut_len {ns : List Int} {lo hi : Option Int} {n : Nat} (h : (TG.cutD (ns.map D.int) lo hi).length ≤ n) : ∃ xs : List Int, TG.cutD (ns.map D.int) lo hi = xs.map .int ∧ xs.length ≤ n := by
  have e : TG.cutD (ns.map D.int) lo hi = ((ns.drop (HT.sIx ns.length 0 lo)).take (HT.sIx ns.length ns.length hi - HT.sIx ns.length 0 lo)).map .int := by
    unfold TG.cutD
    rw [List.length_map, List.map_take, List.map_drop]
  exact ⟨_, e, by rw [e, List.length_map] at h; exact h⟩
theorem tens {x : Int} : 0 ≤ x % 10 ∧ x % 10 ≤ 9 := by omega
section
variable {P : Program} {w : World} {K : PySem.W.Frag} {mg : Str → Option Value} {base : Heap}
theorem euclid_next {x y k n : Nat} (hy : 0 < y) (h : (k = 0 ∧ y < 2 ^ n) ∨ (0 < k ∧ y < x ∧ x * y * 2 ^ (k - 1) < 2 ^ (2 * n))) : 0 < k + 1 ∧ x % y < y ∧ y * (x % y) * 2 ^ (k + 1 - 1) < 2 ^ (2 * n) := by
  have hr : x % y < y := Nat.mod_lt _ hy
  refine ⟨Nat.succ_pos _, hr, ?_⟩
  rw [Nat.add_sub_cancel]
  rcases h with ⟨rfl, hn⟩ | ⟨hk, hx, hb⟩
  · rw [Nat.pow_zero, Nat.mul_one, Nat.two_mul, Nat.pow_add]
    exact Nat.lt_of_le_of_lt (Nat.mul_le_mul_left _ (Nat.le_of_lt hr)) (Nat.mul_lt_mul'' hn hn)
  · refine Nat.lt_of_le_of_lt ?_ hb
    obtain ⟨j, rfl⟩ : ∃ j, k = j + 1 := ⟨k - 1, by omega⟩
    rw [Nat.add_sub_cancel, Nat.pow_succ, Nat.mul_comm (2 ^ j) 2, ← Nat.mul_assoc]
    refine Nat.mul_le_mul_right _ ?_
    have h2 : 2 * (x % y) ≤ x := by
      have e := Nat.div_add_mod x y
      have q : 1 ≤ x / y := Nat.div_pos (Nat.le_of_lt hx) hy
      have : y ≤ y * (x / y) := Nat.le_mul_of_pos_right _ q
      omega
    calc y * (x % y) * 2 = y * (2 * (x % y)) := by rw [Nat.mul_assoc, Nat.mul_comm (x % y)]
      _ ≤ y * x := Nat.mul_le_mul_left _ h2
      _ = x * y := Nat.mul_comm ..
theorem euclid_end {x y : Nat} (h : (10000 = 0 ∧ y < 2 ^ 4999) ∨ (0 < 10000 ∧ y < x ∧ x * y * 2 ^ (10000 - 1) < 2 ^ (2 * 4999))) : y = 0 := by
  rcases h with ⟨h, _⟩ | ⟨_, hx, hb⟩
  · omega
  · by_cases hy : y = 0
    · exact hy
    · exfalso
      have p : 1 ≤ x * y := Nat.mul_pos (by omega) (by omega)
      have q : 2 ^ (2 * 4999) ≤ 1 * 2 ^ (10000 - 1) := by
        rw [Nat.one_mul]
        exact Nat.pow_le_pow_right (by decide) (by decide)
      have := Nat.mul_le_mul_right (2 ^ (10000 - 1)) p
      omega
abbrev S__law_gcd : Spc := ⟨fun ds Q => ∃ a : Int, ∃ b : Int, ds = [.int a, .int b] ∧ (Sz 4999 b) ∧ Q (.va (.int (Int.gcd a b))), fun _ _ _ kk_ ⟨a, b, e_, p_, q_⟩ => ⟨a, b, e_, p_, kk_ _ q_⟩⟩

theorem sc__law_gcd : FnScope ["a", "b", "k", "c"] ["a", "b"] (defScope s__law_gcd) := ⟨rfl, rfl, rfl, by decide +kernel, rfl, by decide +kernel, by decide +kernel⟩
theorem body__law_gcd (T : Txt K mg)  {f : Addr} {cdv : Value} {A : Around} {outer : List Env} {s : Shared} {H : Hp} (hr : Room (0) (A.deeper (envOfC "_law_gcd" (defScope s__law_gcd) s.heap.objs.size f cdv))) (ds : List D) (Q : O → Prop) (hS : (S__law_gcd).S ds Q) :
    WSs (cxOf CX0 P w K mg base ["a", "b", "k", "c"] "_law_gcd" (defScope s__law_gcd) f cdv A outer s H E0).nox noX (defBody s__law_gcd) (slots 4 ds) { nx := fun _ => Q (.va .non), rt := Q } := by
  have sc := sc__law_gcd
  obtain ⟨a, b, rfl, hsz, hQ⟩ := hS
  refine ws_norm (ρ' := [_, _, _, _]) rfl ?_
  refine ws_cons ?_
  refine ws_setE 0 (ee_abs rfl T.m_abs (ea_cons (ee_var 0 rfl) ea_nil)) ?_ sc.nd
  refine ws_norm (ρ' := [_, _, _, _]) rfl ?_
  rw [natAbs_if]
  refine ws_cons ?_
  refine ws_setE 1 (ee_abs rfl T.m_abs (ea_cons (ee_var 1 rfl) ea_nil)) ?_ sc.nd
  refine ws_norm (ρ' := [_, _, _, _]) rfl ?_
  rw [natAbs_if]
  refine ws_cons ?_
  refine ws_forR (fun k ρ => ∃ x y : Nat, ρ = [.va (.int x), .va (.int y), .un, .un] ∧ Nat.gcd x y = Int.gcd a b ∧ ((k = 0 ∧ y < 2 ^ 4999) ∨ (0 < k ∧ y < x ∧ x * y * 2 ^ (k - 1) < 2 ^ (2 * 4999)))) T.m_range (ea_cons ee_int ea_nil) ?start4 nox_own ?turn4 ?fin4 (by decide)
  case start4 =>
    exact Up.of ⟨a.natAbs, b.natAbs, rfl, rfl, .inl ⟨rfl, hsz⟩⟩
  case turn4 =>
    intro k ρ hk hR
    obtain ⟨x, y, rfl, hg, hb⟩ := hR
    refine ⟨_, (at_name 2 sc.nd), ?_⟩
    refine ws_norm (ρ' := [_, _, _, _]) rfl ?_
    refine ws_cons ?_
    refine ws_if (et_eqI hr.units (ee_var 1 rfl) ee_int) (fun h5 => ?_) (fun h5 => ?_)
    · skip
      skip
      refine ws_one ?_
      refine ws_break ?_
      have hy : (y : Int) = 0 := of_decide_eq_true h5
      obtain rfl : y = 0 := by omega
      rw [Nat.gcd_zero_right] at hg
      subst hg
      refine ws_one ?_
      refine ws_retE (ee_var 0 rfl) ?_
      walk_at "tg return"
    · skip
      have hy : ¬ (y : Int) = 0 := of_decide_eq_false h5
      refine ws_nil ?_
      refine ws_cons ?_
      refine ws_setE 3 (ee_mod (ee_toInt rfl T.m_int (ea_cons (ee_var 0 rfl) ea_nil)) (ee_var 1 rfl) (by walk_at "tg mod")) ?_ sc.nd
      refine ws_norm (ρ' := [_, _, _, _]) rfl ?_
      refine ws_cons ?_
      refine ws_setE 0 (ee_var 1 rfl) ?_ sc.nd
      refine ws_norm (ρ' := [_, _, _, _]) rfl ?_
      refine ws_one ?_
      refine ws_setE 1 (ee_var 3 rfl) ?_ sc.nd
      exact up_intro ⟨y, x % y, rfl, (gcd_turn x y).trans hg, .inr (euclid_next (by omega) hb)⟩ (by walk_at "tg le")
  case fin4 =>
    intro ρ hR
    obtain ⟨x, y, rfl, hg, hb⟩ := hR
    obtain rfl := euclid_end hb
    rw [Nat.gcd_zero_right] at hg
    subst hg
    refine ws_one ?_
    refine ws_retE (ee_var 0 rfl) ?_
    walk_at "tg return"
theorem cal__law_gcd (T : Txt K mg)  : Cal P w K mg base 1 "_law_gcd" S__law_gcd [] :=
  cal_of (T.d__law_gcd.fn (P := P) (w := w) (base := base) (S := S__law_gcd) (k := 0) sc__law_gcd (fun ds Q h => by obtain ⟨_, _, rfl, _⟩ := h; rfl) fun f cdv A outer s H hr ds Q hS => body__law_gcd T  hr ds Q hS) 0 (by decide) (fun G => .nil)
abbrev S__law_frac : Spc := ⟨fun ds Q => ∃ n : Int, ∃ d : Int, ds = [.int n, .int d] ∧ (d ≠ 0 ∧ Sz 4999 d) ∧ Q (.va (rq (Rat.divInt n d))), fun _ _ _ kk_ ⟨n, d, e_, p_, q_⟩ => ⟨n, d, e_, p_, kk_ _ q_⟩⟩

theorem sc__law_frac : FnScope ["n", "d", "g"] ["n", "d"] (defScope s__law_frac) := ⟨rfl, rfl, rfl, by decide +kernel, rfl, by decide +kernel, by decide +kernel⟩
theorem body__law_frac (T : Txt K mg) (C__law_gcd : Cal P w K mg base 1 "_law_gcd" S__law_gcd []) {f : Addr} {cdv : Value} {A : Around} {outer : List Env} {s : Shared} {H : Hp} (hr : Room (1) (A.deeper (envOfC "_law_frac" (defScope s__law_frac) s.heap.objs.size f cdv))) (ds : List D) (Q : O → Prop) (hS : (S__law_frac).S ds Q) :
    WSs (cxOf CX0 P w K mg base ["n", "d", "g"] "_law_frac" (defScope s__law_frac) f cdv A outer s H E0).nox noX (defBody s__law_frac) (slots 3 ds) { nx := fun _ => Q (.va .non), rt := Q } := by
  have sc := sc__law_frac
  obtain ⟨n, d, rfl, ⟨hd, hsz⟩, hQ⟩ := hS
  refine ws_norm (ρ' := [_, _, _]) rfl ?_
  rw [← rq_frac hd] at hQ
  have hg := fg_ne (n := n) hd
  have hgs := fg_sz (n := n) hd hsz
  refine ws_cons ?_
  refine ws_setE 2 (ee_cal (C__law_gcd) (hr.mono (by decide)) (ea_cons (ee_var 0 rfl) (ea_cons (ee_var 1 rfl) ea_nil)) (by exact ⟨_, _, rfl, hsz, rfl⟩)) ?_ sc.nd
  refine ws_norm (ρ' := [_, _, _]) rfl ?_
  refine ws_cons ?_
  refine ws_if (et_lt (ee_var 1 rfl) ee_int) (fun h3 => ?_) (fun h3 => ?_)
  · skip
    have hd0 : d < 0 := of_decide_eq_true h3
    have e : fg n d = -(Int.gcd n d : Int) := if_pos hd0
    refine ws_one ?_
    refine ws_setE 2 (ee_sub ee_int (ee_var 2 rfl)) ?_ sc.nd
    refine ws_norm (ρ' := [_, _, _]) rfl ?_
    refine ws_one ?_
    refine ws_retE (ee_tup (ea_cons (ee_fdiv (ee_var 0 rfl) (ee_var 2 rfl) (by first | (rw [← e]; exact hgs.div hg) | (rw [Int.zero_sub, ← e]; exact hgs.div hg))) (ea_cons (ee_fdiv (ee_var 1 rfl) (ee_var 2 rfl) (by first | (rw [← e]; exact hgs.div hg) | (rw [Int.zero_sub, ← e]; exact hgs.div hg))) ea_nil))) ?_
    first | (rw [← e]; exact hQ) | (rw [Int.zero_sub, ← e]; exact hQ)
  · skip
    have hd0 : ¬ d < 0 := of_decide_eq_false h3
    have e : fg n d = (Int.gcd n d : Int) := if_neg hd0
    refine ws_nil ?_
    refine ws_one ?_
    refine ws_retE (ee_tup (ea_cons (ee_fdiv (ee_var 0 rfl) (ee_var 2 rfl) (by first | (rw [← e]; exact hgs.div hg) | (rw [Int.zero_sub, ← e]; exact hgs.div hg))) (ea_cons (ee_fdiv (ee_var 1 rfl) (ee_var 2 rfl) (by first | (rw [← e]; exact hgs.div hg) | (rw [Int.zero_sub, ← e]; exact hgs.div hg))) ea_nil))) ?_
    first | (rw [← e]; exact hQ) | (rw [Int.zero_sub, ← e]; exact hQ)
theorem cal__law_frac (T : Txt K mg) (C__law_gcd : Cal P w K mg base 1 "_law_gcd" S__law_gcd []) : Cal P w K mg base 2 "_law_frac" S__law_frac [] :=
  cal_of (T.d__law_frac.fn (P := P) (w := w) (base := base) (S := S__law_frac) (k := 1) sc__law_frac (fun ds Q h => by obtain ⟨_, _, rfl, _⟩ := h; rfl) fun f cdv A outer s H hr ds Q hS => body__law_frac T C__law_gcd hr ds Q hS) 0 (by decide) (fun G => .nil)
abbrev S__law_add : Spc := ⟨fun ds Q => ∃ p : Rat, ∃ q : Rat, ds = [rq p, rq q] ∧ (Rz 2000 p ∧ Rz 2000 q) ∧ Q (.va (rq (p + q))), fun _ _ _ kk_ ⟨p, q, e_, p_, q_⟩ => ⟨p, q, e_, p_, kk_ _ q_⟩⟩

theorem sc__law_add : FnScope ["f", "g"] ["f", "g"] (defScope s__law_add) := ⟨rfl, rfl, rfl, by decide +kernel, rfl, by decide +kernel, by decide +kernel⟩
theorem body__law_add (T : Txt K mg) (C__law_frac : Cal P w K mg base 2 "_law_frac" S__law_frac []) {f : Addr} {cdv : Value} {A : Around} {outer : List Env} {s : Shared} {H : Hp} (hr : Room (2) (A.deeper (envOfC "_law_add" (defScope s__law_add) s.heap.objs.size f cdv))) (ds : List D) (Q : O → Prop) (hS : (S__law_add).S ds Q) :
    WSs (cxOf CX0 P w K mg base ["f", "g"] "_law_add" (defScope s__law_add) f cdv A outer s H E0).nox noX (defBody s__law_add) (slots 2 ds) { nx := fun _ => Q (.va .non), rt := Q } := by
  have sc := sc__law_add
  obtain ⟨p, q, rfl, ⟨hp, hq⟩, hQ⟩ := hS
  refine ws_norm (ρ' := [_, _]) rfl ?_
  have h1 := hp.num
  have h2 := hp.den
  have h3 := hq.num
  have h4 := hq.den
  refine ws_one ?_
  refine ws_retE (ee_cal (C__law_frac) (hr.mono (by decide)) (ea_cons (ee_add (ee_mul (ee_ix (ee_var 0 rfl) ee_int rfl rfl) (ee_ix (ee_var 1 rfl) ee_int rfl rfl) (by exact Sz.mulE (by assumption) (by assumption))) (ee_mul (ee_ix (ee_var 1 rfl) ee_int rfl rfl) (ee_ix (ee_var 0 rfl) ee_int rfl rfl) (by exact Sz.mulE (by assumption) (by assumption)))) (ea_cons (ee_mul (ee_ix (ee_var 0 rfl) ee_int rfl rfl) (ee_ix (ee_var 1 rfl) ee_int rfl rfl) (by exact Sz.mulE (by assumption) (by assumption))) ea_nil)) (by exact ⟨_, _, rfl, ⟨mul_ne (rq_ne p) (rq_ne q), (h2.mul h4).mono (by decide)⟩, rfl⟩)) ?_
  rw [rat_add]; exact hQ
theorem cal__law_add (T : Txt K mg) (C__law_frac : Cal P w K mg base 2 "_law_frac" S__law_frac []) : Cal P w K mg base 3 "_law_add" S__law_add [] :=
  cal_of (T.d__law_add.fn (P := P) (w := w) (base := base) (S := S__law_add) (k := 2) sc__law_add (fun ds Q h => by obtain ⟨_, _, rfl, _⟩ := h; rfl) fun f cdv A outer s H hr ds Q hS => body__law_add T C__law_frac hr ds Q hS) 0 (by decide) (fun G => .nil)
abbrev S__law_rows : Spc := ⟨fun ds Q => ds = [] ∧ (True) ∧ Q (.ml ((rowsB 4).map enD)), fun _ _ _ kk_ ⟨e_, p_, q_⟩ => ⟨e_, p_, kk_ _ q_⟩⟩

theorem sc__law_rows : FnScope ["rows", "last", "k", "longer", "row", "price", "n", "total"] [] (defScope s__law_rows) := ⟨rfl, rfl, rfl, by decide +kernel, rfl, by decide +kernel, by decide +kernel⟩
theorem body__law_rows (T : Txt K mg)  {f : Addr} {cdv : Value} {A : Around} {outer : List Env} {s : Shared} {H : Hp} (hr : Room (0) (A.deeper (envOfC "_law_rows" (defScope s__law_rows) s.heap.objs.size f cdv))) (ds : List D) (Q : O → Prop) (hS : (S__law_rows).S ds Q) :
    WSs (cxOf CX0 P w K mg base ["rows", "last", "k", "longer", "row", "price", "n", "total"] "_law_rows" (defScope s__law_rows) f cdv A outer s H E0).nox noX (defBody s__law_rows) (slots 8 ds) { nx := fun _ => Q (.va .non), rt := Q } := by
  have sc := sc__law_rows
  obtain ⟨rfl, hp, hQ⟩ := hS
  refine ws_norm (ρ' := [_, _, _, _, _, _, _, _]) rfl ?_
  refine ws_cons ?_
  refine ws_setM 0 (eo_lst (ea_cons (ee_tup (ea_cons (ee_tup ea_nil) (ea_cons ee_int ea_nil))) ea_nil)) ?_ sc.nd
  refine ws_norm (ρ' := [_, _, _, _, _, _, _, _]) rfl ?_
  refine ws_cons ?_
  refine ws_setM 1 (eo_lst (ea_cons (ee_tup (ea_cons (ee_tup ea_nil) (ea_cons ee_int ea_nil))) ea_nil)) ?_ sc.nd
  refine ws_norm (ρ' := [_, _, _, _, _, _, _, _]) rfl ?_
  refine ws_freeze 1 rfl ?_
  refine ws_norm (ρ' := [_, _, _, _, _, _, _, _]) rfl ?_
  refine ws_cons ?_
  refine ws_forR (fun k ρ => ρ = [.ml ((rowsB k).map enD), .va (.lst ((lastB k).map enD)), .un, .un, .un, .un, .un, .un]) T.m_range (ea_cons ee_int ea_nil) ?start4 nox_own ?turn4 ?fin4 (by decide)
  case start4 =>
    exact up_intro rfl (by walk_at "tg le")
  case turn4 =>
    intro k ρ hk hR
    subst hR
    obtain ⟨hl1, hl2, hl3, hl4⟩ := lastB_len k (by omega)
    refine ⟨_, (at_name 2 sc.nd), ?_⟩
    refine ws_norm (ρ' := [_, _, _, _, _, _, _, _]) rfl ?_
    refine ws_cons ?_
    refine ws_setM 3 (eo_lst ea_nil) ?_ sc.nd
    refine ws_norm (ρ' := [_, _, _, _, _, _, _, _]) rfl ?_
    refine ws_cons ?_
    refine ws_forL (fun i ρ => ∃ l : List D, ρ = [.ml ((rowsB k).map enD), .va (.lst ((lastB k).map enD)), .va (.int (k : Int)), .ml l, .un, .un, .un, .un] ∧ l = (((lastB k).take i).flatMap stepB).map enD) (ee_lst (eo_list rfl T.m_list (ea_cons (ee_var 1 rfl) ea_nil) rfl)) ?start6 nox_own ?turn6 ?fin6
    case start6 =>
      exact up_intro ⟨_, rfl, rfl⟩ (by walk_at "tg le")
    case turn6 =>
      intro i d ρ hi hR
      obtain ⟨l, rfl, hl⟩ := hR
      obtain ⟨hi', rfl⟩ := map_getK (f := enD) (l := lastB k) ([], 0) hi
      obtain ⟨p1, p2, p3⟩ := hl4 _ (getD_mem (x := ([], 0)) hi')
      have lt1 := List.length_take_le' i (lastB k)
      have lt2 := flat_len (l := (lastB k).take i) (f := stepB) stepB_len
      refine ⟨_, (at_tup (ats_cons (at_name 4 sc.nd) (ats_cons (at_name 5 sc.nd) ats_nil))), ?_⟩
      refine ws_norm (ρ' := [_, _, _, _, _, _, _, _]) rfl ?_
      refine ws_one ?_
      refine ws_forR2 (fun j ρ => ∃ l : List D, ρ = [.ml ((rowsB k).map enD), .va (.lst ((lastB k).map enD)), .va (.int (k : Int)), .ml l, .va (rwD ((lastB k).getD i ([], 0)).1), .va (.int ((lastB k).getD i ([], 0)).2), .un, .un] ∧ l = (((lastB k).take i).flatMap stepB ++ (List.range j).flatMap fun j : Nat => addB ((lastB k).getD i ([], 0)) (2 + (j : Int))).map enD) T.m_range (ea_cons ee_int (ea_cons ee_int ea_nil)) ?start7 nox_own ?turn7 ?fin7 (by decide)
      case start7 =>
        exact up_intro ⟨_, rfl, by rw [List.range_zero, List.flatMap_nil, List.append_nil, ← hl]⟩ (by walk_at "tg le")
      case turn7 =>
        intro j ρ hj hR
        obtain ⟨l, rfl, hl⟩ := hR
        have hj2 : j < 11 := by omega
        have lt3 := flat_len (l := List.range j) (f := fun j : Nat => addB ((lastB k).getD i ([], 0)) (2 + (j : Int))) (n := 1) (fun _ => addB_len _ _)
        rw [List.length_range] at lt3
        have zn : Sz 5 (2 + (j : Int)) := Sz.nn (by omega) (by omega)
        refine ⟨_, (at_name 6 sc.nd), ?_⟩
        refine ws_norm (ρ' := [_, _, _, _, _, _, _, _]) rfl ?_
        refine ws_one ?_
        refine ws_if (EW.et (ew_or (et_eq hr.units (ee_var 4 rfl) (ee_tup ea_nil) (by first | exact rw_cmp _ | rfl) (by first | exact rw_cmp _ | rfl)) (fun hv => (ew_or1 (et_le (ee_ix (ee_var 4 rfl) (ee_neg ee_int) rfl (by exact last_at (fun z => by rw [rw_nil, decide_eq_true z] at hv; cases hv))) (ee_var 6 rfl)))))) (fun h8 => ?_) (fun h8 => ?_)
        · skip
          rw [rw_nil] at h8
          have hs8 : addB ((lastB k).getD i ([], 0)) (2 + (j : Int)) = _ := if_pos h8
          refine ws_cons ?_
          refine ws_setE 7 (ee_add (ee_var 5 rfl) (ee_fdiv (ee_mul ee_int (ee_sub (ee_var 6 rfl) ee_int) (by walk_at "tg mul")) (ee_var 6 rfl) (by exact zn.div (by omega)))) ?_ sc.nd
          refine ws_norm (ρ' := [_, _, _, _, _, _, _, _]) rfl ?_
          refine ws_abs 7 (fun d => d = .int (prB ((lastB k).getD i ([], 0)) (2 + (j : Int)))) rfl (rfl) ?_
          rintro _ rfl
          refine ws_norm (ρ' := [_, _, _, _, _, _, _, _]) rfl ?_
          refine ws_one ?_
          refine ws_if (et_le (ee_var 7 rfl) (ee_mul ee_int ee_int (by walk_at "tg mul"))) (fun h10 => ?_) (fun h10 => ?_)
          · skip
            have hl6 : l ++ [enD (((lastB k).getD i ([], 0)).1 ++ [2 + (j : Int)], prB ((lastB k).getD i ([], 0)) (2 + (j : Int)))] = (((lastB k).take i).flatMap stepB ++ (List.range (j + 1)).flatMap fun j : Nat => addB ((lastB k).getD i ([], 0)) (2 + (j : Int))).map enD := by rw [range_flat, hs8, if_pos h10, hl]; simp
            rw [show enD (((lastB k).getD i ([], 0)).1 ++ [2 + (j : Int)], prB ((lastB k).getD i ([], 0)) (2 + (j : Int))) = .tup [.tup (((lastB k).getD i ([], 0)).1.map .int ++ [.int (2 + (j : Int))]), .int (prB ((lastB k).getD i ([], 0)) (2 + (j : Int)))] by simp] at hl6
            refine ws_one ?_
            refine ws_append 3 rfl (ee_tup (ea_cons (ee_catT (ee_var 4 rfl) (ee_tup (ea_cons (ee_var 6 rfl) ea_nil)) (by rw [List.length_map]; exact Nat.le_trans (Nat.add_le_add_right p1 1) (by decide))) (ea_cons (ee_var 7 rfl) ea_nil))) (by rw [hl, List.length_map, List.length_append]; exact line_of (by omega)) ?_
            exact up_intro ⟨_, rfl, hl6⟩ (by walk_at "tg le")
          · skip
            have hl6 : l = (((lastB k).take i).flatMap stepB ++ (List.range (j + 1)).flatMap fun j : Nat => addB ((lastB k).getD i ([], 0)) (2 + (j : Int))).map enD := by rw [range_flat, hs8, if_neg (by rw [h10]; exact Bool.false_ne_true), List.append_nil, hl]
            refine ws_nil ?_
            exact up_intro ⟨_, rfl, hl6⟩ (by walk_at "tg le")
        · skip
          rw [rw_nil] at h8
          have hs8 : addB ((lastB k).getD i ([], 0)) (2 + (j : Int)) = [] := if_neg (by rw [h8]; exact Bool.false_ne_true)
          have hl6 : l = (((lastB k).take i).flatMap stepB ++ (List.range (j + 1)).flatMap fun j : Nat => addB ((lastB k).getD i ([], 0)) (2 + (j : Int))).map enD := by rw [range_flat, hs8, List.append_nil, hl]
          refine ws_nil ?_
          exact up_intro ⟨_, rfl, hl6⟩ (by walk_at "tg le")
      case fin7 =>
        intro ρ hR
        obtain ⟨l, rfl, hl⟩ := hR
        have hl5 : l = (((lastB k).take (i + 1)).flatMap stepB).map enD := by rw [flat_next (x := ([], 0)) hi', hl]; rfl
        exact up_intro ⟨_, rfl, hl5⟩ (by walk_at "tg le")
    case fin6 =>
      intro ρ hR
      obtain ⟨l, rfl, hl⟩ := hR
      rw [List.length_map, List.take_length] at hl
      subst hl
      refine ws_cons ?_
      refine ws_move 3 1 rfl (by decide) ?_ sc.nd
      refine ws_norm (ρ' := [_, _, _, _, _, _, _, _]) rfl ?_
      refine ws_freeze 1 rfl ?_
      refine ws_norm (ρ' := [_, _, _, _, _, _, _, _]) rfl ?_
      refine ws_freeze 0 rfl ?_
      refine ws_norm (ρ' := [_, _, _, _, _, _, _, _]) rfl ?_
      refine ws_one ?_
      refine ws_setM 0 (eo_catL (ee_var 0 rfl) (ee_var 1 rfl) (by rw [List.length_map, List.length_map]; exact Nat.le_trans (Nat.add_le_add hl1 hl3) (by decide))) ?_ sc.nd
      rw [← List.map_append]
      exact up_intro rfl (by walk_at "tg le")
  case fin4 =>
    intro ρ hR
    subst hR
    refine ws_one ?_
    refine ws_retM 0 rfl ?_
    walk_at "tg return"
theorem cal__law_rows (T : Txt K mg)  : Cal P w K mg base 1 "_law_rows" S__law_rows [] :=
  cal_of (T.d__law_rows.fn (P := P) (w := w) (base := base) (S := S__law_rows) (k := 0) sc__law_rows (fun ds Q h => by obtain ⟨rfl, _⟩ := h; rfl) fun f cdv A outer s H hr ds Q hS => body__law_rows T  hr ds Q hS) 0 (by decide) (fun G => .nil)
abbrev S__law_all : Spc := ⟨fun ds Q => ds = [] ∧ (True) ∧ Q (.ml (srt (foundB.map sgD))), fun _ _ _ kk_ ⟨e_, p_, q_⟩ => ⟨e_, p_, kk_ _ q_⟩⟩

theorem sc__law_all : FnScope ["found", "rows", "turning", "price", "corners", "double", "rims", "missing", "twists"] [] (defScope s__law_all) := ⟨rfl, rfl, rfl, by decide +kernel, rfl, by decide +kernel, by decide +kernel⟩
theorem body__law_all (T : Txt K mg) (C__law_rows : Cal P w K mg base 1 "_law_rows" S__law_rows []) {f : Addr} {cdv : Value} {A : Around} {outer : List Env} {s : Shared} {H : Hp} (hr : Room (1) (A.deeper (envOfC "_law_all" (defScope s__law_all) s.heap.objs.size f cdv))) (ds : List D) (Q : O → Prop) (hS : (S__law_all).S ds Q) :
    WSs (cxOf CX0 P w K mg base ["found", "rows", "turning", "price", "corners", "double", "rims", "missing", "twists"] "_law_all" (defScope s__law_all) f cdv A outer s H E0).nox noX (defBody s__law_all) (slots 9 ds) { nx := fun _ => Q (.va .non), rt := Q } := by
  have sc := sc__law_all
  obtain ⟨rfl, hp, hQ⟩ := hS
  refine ws_norm (ρ' := [_, _, _, _, _, _, _, _, _]) rfl ?_
  refine ws_cons ?_
  refine ws_setM 0 (eo_lst ea_nil) ?_ sc.nd
  refine ws_norm (ρ' := [_, _, _, _, _, _, _, _, _]) rfl ?_
  refine ws_cons ?_
  refine ws_setM 1 (eo_cal0 (C__law_rows) (hr.mono (by decide)) (by exact ⟨rfl, (by walk_at "tg pre"), rfl⟩)) ?_ sc.nd
  refine ws_norm (ρ' := [_, _, _, _, _, _, _, _, _]) rfl ?_
  refine ws_freeze 1 rfl ?_
  refine ws_norm (ρ' := [_, _, _, _, _, _, _, _, _]) rfl ?_
  refine ws_cons ?_
  refine ws_forL (fun i ρ => ∃ l : List D, ρ = [.ml l, .va (.lst ((rowsB 4).map enD)), .un, .un, .un, .un, .un, .un, .un] ∧ l = (((rowsB 4).take i).flatMap outB).map sgD) (ee_var 1 rfl) ?start4 nox_own ?turn4 ?fin4
  case start4 =>
    exact up_intro ⟨_, rfl, rfl⟩ (by walk_at "tg le")
  case turn4 =>
    intro i d ρ hi hR
    obtain ⟨l, rfl, hl⟩ := hR
    obtain ⟨hi', rfl⟩ := map_getK (f := enD) (l := rowsB 4) ([], 0) hi
    obtain ⟨p1, p2⟩ := rowsB_ok.2 _ (getD_mem (x := ([], 0)) hi')
    have z1 : Sz 20 ((rowsB 4).getD i ([], 0)).2 := Sz.nn (by omega) (by omega)
    refine ⟨_, (at_tup (ats_cons (at_name 2 sc.nd) (ats_cons (at_name 3 sc.nd) ats_nil))), ?_⟩
    refine ws_norm (ρ' := [_, _, _, _, _, _, _, _, _]) rfl ?_
    refine ws_one ?_
    refine ws_forL (fun j ρ => ∃ l : List D, ρ = [.ml l, .va (.lst ((rowsB 4).map enD)), .va (rwD ((rowsB 4).getD i ([], 0)).1), .va (.int ((rowsB 4).getD i ([], 0)).2), .un, .un, .un, .un, .un] ∧ l = (((rowsB 4).take i).flatMap outB ++ ((rowsB 4).take j).flatMap (midB ((rowsB 4).getD i ([], 0)))).map sgD) (ee_var 1 rfl) ?start5 nox_own ?turn5 ?fin5
    case start5 =>
      exact up_intro ⟨_, rfl, by rw [List.take_zero, List.flatMap_nil, List.append_nil, ← hl]⟩ (by walk_at "tg le")
    case turn5 =>
      intro j d ρ hj hR
      obtain ⟨l, rfl, hl⟩ := hR
      obtain ⟨hj', rfl⟩ := map_getK (f := enD) (l := rowsB 4) ([], 0) hj
      obtain ⟨q1, q2⟩ := rowsB_ok.2 _ (getD_mem (x := ([], 0)) hj')
      have z2 : Sz 20 ((rowsB 4).getD j ([], 0)).2 := Sz.nn (by omega) (by omega)
      refine ⟨_, (at_tup (ats_cons (at_name 4 sc.nd) (ats_cons (at_name 5 sc.nd) ats_nil))), ?_⟩
      refine ws_norm (ρ' := [_, _, _, _, _, _, _, _, _]) rfl ?_
      refine ws_one ?_
      refine ws_if (et_le (ee_add (ee_mul (ee_var 3 rfl) ee_int (by walk_at "tg mul")) (ee_var 5 rfl)) (ee_mul ee_int ee_int (by walk_at "tg mul"))) (fun h6 => ?_) (fun h6 => ?_)
      · skip
        have hm6 : midB ((rowsB 4).getD i ([], 0)) ((rowsB 4).getD j ([], 0)) = _ := if_pos h6
        refine ws_one ?_
        refine ws_forR (fun m ρ => ∃ l : List D, ρ = [.ml l, .va (.lst ((rowsB 4).map enD)), .va (rwD ((rowsB 4).getD i ([], 0)).1), .va (.int ((rowsB 4).getD i ([], 0)).2), .va (rwD ((rowsB 4).getD j ([], 0)).1), .va (.int ((rowsB 4).getD j ([], 0)).2), .un, .un, .un] ∧ l = ((((rowsB 4).take i).flatMap outB ++ ((rowsB 4).take j).flatMap (midB ((rowsB 4).getD i ([], 0)))) ++ (List.range m).flatMap (sigB ((rowsB 4).getD i ([], 0)) ((rowsB 4).getD j ([], 0)))).map sgD) T.m_range (ea_cons ee_int ea_nil) ?start7 nox_own ?turn7 ?fin7 (by decide)
        case start7 =>
          exact up_intro ⟨_, rfl, by rw [List.range_zero, List.flatMap_nil, List.append_nil, ← hl]⟩ (by walk_at "tg le")
        case turn7 =>
          intro m ρ hm hR
          obtain ⟨l, rfl, hl⟩ := hR
          have zm : Sz 3 (m : Int) := Sz.nn (by omega) (by omega)
          have l1 := List.length_take_le' i (rowsB 4)
          have l2 := List.length_take_le' j (rowsB 4)
          have l3 := rowsB_ok.1
          have l4 := flat_len (l := (rowsB 4).take i) (f := outB) outB_len
          have l5 := flat_len (l := (rowsB 4).take j) (f := midB ((rowsB 4).getD i ([], 0))) (midB_len _)
          have l6 := flat_len (l := List.range m) (f := sigB ((rowsB 4).getD i ([], 0)) ((rowsB 4).getD j ([], 0))) (sigB_len _ _)
          rw [List.length_range] at l6
          refine ⟨_, (at_name 6 sc.nd), ?_⟩
          refine ws_norm (ρ' := [_, _, _, _, _, _, _, _, _]) rfl ?_
          refine ws_cons ?_
          refine ws_setE 7 (ee_sub (ee_sub (ee_sub (ee_mul ee_int ee_int (by walk_at "tg mul")) (ee_mul (ee_var 3 rfl) ee_int (by walk_at "tg mul"))) (ee_var 5 rfl)) (ee_mul (ee_mul (ee_var 6 rfl) ee_int (by walk_at "tg mul")) ee_int (by walk_at "tg mul"))) ?_ sc.nd
          refine ws_norm (ρ' := [_, _, _, _, _, _, _, _, _]) rfl ?_
          refine ws_abs 7 (fun d => d = .int (misB ((rowsB 4).getD i ([], 0)) ((rowsB 4).getD j ([], 0)) m)) rfl (rfl) ?_
          rintro _ rfl
          refine ws_norm (ρ' := [_, _, _, _, _, _, _, _, _]) rfl ?_
          refine ws_one ?_
          refine ws_if (EW.et (ew_and (et_ge (ee_var 7 rfl) ee_int) (fun hv => (ew_and (et_eqI hr.units (ee_mod (ee_var 7 rfl) (ee_mul ee_int ee_int (by walk_at "tg mul")) (by decide)) ee_int) (fun hv => (ew_and1 (EW.et (ew_or (et_gt (ee_var 6 rfl) ee_int) (fun hv => (ew_or1 (et_eq hr.units (ee_var 4 rfl) (ee_tup ea_nil) (by first | exact rw_cmp _ | rfl) (by first | exact rw_cmp _ | rfl)))))))))))) (fun h9 => ?_) (fun h9 => ?_)
          · skip
            rw [rw_nil] at h9
            have hsg : sigB ((rowsB 4).getD i ([], 0)) ((rowsB 4).getD j ([], 0)) m = _ := if_pos h9
            refine ws_cons ?_
            refine ws_setE 8 (ee_fdiv (ee_var 7 rfl) (ee_mul ee_int ee_int (by walk_at "tg mul")) (by exact ⟨by decide, by decide⟩)) ?_ sc.nd
            refine ws_norm (ρ' := [_, _, _, _, _, _, _, _, _]) rfl ?_
            refine ws_cons ?_
            refine ws_append 0 rfl (ee_tup (ea_cons (ee_var 2 rfl) (ea_cons (ee_var 4 rfl) (ea_cons (ee_var 6 rfl) (ea_cons (ee_var 8 rfl) (ea_cons ee_int ea_nil)))))) (by first | (rw [hl, List.length_map, List.length_append, List.length_append]; exact line_of (by omega)) | (rw [List.length_append, hl, List.length_map, List.length_append, List.length_append]; exact line_of (by simp only [List.length_cons, List.length_nil]; omega))) ?_
            refine ws_norm (ρ' := [_, _, _, _, _, _, _, _, _]) rfl ?_
            refine ws_one ?_
            refine ws_if (et_eqI hr.units (ee_var 8 rfl) ee_int) (fun h12 => ?_) (fun h12 => ?_)
            · skip
              have hl4 : l ++ [sgD (((rowsB 4).getD i ([], 0)).1, ((rowsB 4).getD j ([], 0)).1, (m : Int), (misB ((rowsB 4).getD i ([], 0)) ((rowsB 4).getD j ([], 0)) m).fdiv (2 * 27720), 0)] ++ [sgD (((rowsB 4).getD i ([], 0)).1, ((rowsB 4).getD j ([], 0)).1, (m : Int), 0, 1)] = ((((rowsB 4).take i).flatMap outB ++ ((rowsB 4).take j).flatMap (midB ((rowsB 4).getD i ([], 0)))) ++ (List.range (m + 1)).flatMap (sigB ((rowsB 4).getD i ([], 0)) ((rowsB 4).getD j ([], 0)))).map sgD := by rw [range_flat, hsg, if_pos h12, hl]; simp
              refine ws_one ?_
              refine ws_append 0 rfl (ee_tup (ea_cons (ee_var 2 rfl) (ea_cons (ee_var 4 rfl) (ea_cons (ee_var 6 rfl) (ea_cons ee_int (ea_cons ee_int ea_nil)))))) (by first | (rw [hl, List.length_map, List.length_append, List.length_append]; exact line_of (by omega)) | (rw [List.length_append, hl, List.length_map, List.length_append, List.length_append]; exact line_of (by simp only [List.length_cons, List.length_nil]; omega))) ?_
              exact up_intro ⟨_, rfl, hl4⟩ (by walk_at "tg le")
            · skip
              have hl4 : l ++ [sgD (((rowsB 4).getD i ([], 0)).1, ((rowsB 4).getD j ([], 0)).1, (m : Int), (misB ((rowsB 4).getD i ([], 0)) ((rowsB 4).getD j ([], 0)) m).fdiv (2 * 27720), 0)] = ((((rowsB 4).take i).flatMap outB ++ ((rowsB 4).take j).flatMap (midB ((rowsB 4).getD i ([], 0)))) ++ (List.range (m + 1)).flatMap (sigB ((rowsB 4).getD i ([], 0)) ((rowsB 4).getD j ([], 0)))).map sgD := by rw [range_flat, hsg, if_neg (by rw [h12]; exact Bool.false_ne_true), hl]; simp
              refine ws_nil ?_
              exact up_intro ⟨_, rfl, hl4⟩ (by walk_at "tg le")
          · skip
            rw [rw_nil] at h9
            have hsg : sigB ((rowsB 4).getD i ([], 0)) ((rowsB 4).getD j ([], 0)) m = [] := if_neg (by rw [h9]; exact Bool.false_ne_true)
            have hl4 : l = ((((rowsB 4).take i).flatMap outB ++ ((rowsB 4).take j).flatMap (midB ((rowsB 4).getD i ([], 0)))) ++ (List.range (m + 1)).flatMap (sigB ((rowsB 4).getD i ([], 0)) ((rowsB 4).getD j ([], 0)))).map sgD := by rw [range_flat, hsg, List.append_nil, hl]
            refine ws_nil ?_
            exact up_intro ⟨_, rfl, hl4⟩ (by walk_at "tg le")
        case fin7 =>
          intro ρ hR
          obtain ⟨l, rfl, hl⟩ := hR
          have hl3 : l = (((rowsB 4).take i).flatMap outB ++ ((rowsB 4).take (j + 1)).flatMap (midB ((rowsB 4).getD i ([], 0)))).map sgD := by rw [take_getD ([], 0) hj', List.flatMap_append, ← List.append_assoc, hl]; simp only [List.flatMap_cons, List.flatMap_nil, hm6, List.append_nil]; rfl
          exact up_intro ⟨_, rfl, hl3⟩ (by walk_at "tg le")
      · skip
        have hm6 : midB ((rowsB 4).getD i ([], 0)) ((rowsB 4).getD j ([], 0)) = [] := if_neg (by rw [h6]; exact Bool.false_ne_true)
        have hl3 : l = (((rowsB 4).take i).flatMap outB ++ ((rowsB 4).take (j + 1)).flatMap (midB ((rowsB 4).getD i ([], 0)))).map sgD := by rw [take_getD ([], 0) hj', List.flatMap_append, ← List.append_assoc, hl]; simp only [List.flatMap_cons, List.flatMap_nil, hm6, List.append_nil]
        refine ws_nil ?_
        exact up_intro ⟨_, rfl, hl3⟩ (by walk_at "tg le")
    case fin5 =>
      intro ρ hR
      obtain ⟨l, rfl, hl⟩ := hR
      rw [List.length_map, List.take_length] at hl
      have hl2 : l = (((rowsB 4).take (i + 1)).flatMap outB).map sgD := by rw [flat_next (x := ([], 0)) hi', hl]; rfl
      exact up_intro ⟨_, rfl, hl2⟩ (by walk_at "tg le")
  case fin4 =>
    intro ρ hR
    obtain ⟨l, rfl, hl⟩ := hR
    rw [List.length_map, List.take_length] at hl
    refine ws_freeze 0 rfl ?_
    refine ws_norm (ρ' := [_, _, _, _, _, _, _, _, _]) rfl ?_
    refine ws_one ?_
    refine ws_ret (P := fun o => o = .ml _) (eo_sorted hr rfl T.m_sorted (ea_cons (ee_var 0 rfl) ea_nil) (by rw [hl]; exact plains_map sg_plain _) (by rw [hl]; exact rows_map sg_alike fun _ => ⟨_, _, rfl⟩) (by rw [hl]; exact Nat.le_trans (depths_map sg_depth) (by decide))) ?_
    rintro _ rfl
    rw [hl]; exact hQ
theorem cal__law_all (T : Txt K mg) (C__law_rows : Cal P w K mg base 1 "_law_rows" S__law_rows []) : Cal P w K mg base 2 "_law_all" S__law_all [] :=
  cal_of (T.d__law_all.fn (P := P) (w := w) (base := base) (S := S__law_all) (k := 1) sc__law_all (fun ds Q h => by obtain ⟨rfl, _⟩ := h; rfl) fun f cdv A outer s H hr ds Q hS => body__law_all T C__law_rows hr ds Q hS) 0 (by decide) (fun G => .nil)
abbrev S__law_cell : Spc := ⟨fun ds Q => ∃ ns : List Int, ∃ k : Nat, ds = [.cst (ns.map .int), .int (k : Int)] ∧ (True) ∧ Q (.va (.int (ns.getD k 0))), fun _ _ _ kk_ ⟨ns, k, e_, p_, q_⟩ => ⟨ns, k, e_, p_, kk_ _ q_⟩⟩

theorem sc__law_cell : FnScope ["script", "k"] ["script", "k"] (defScope s__law_cell) := ⟨rfl, rfl, rfl, by decide +kernel, rfl, by decide +kernel, by decide +kernel⟩
theorem body__law_cell (T : Txt K mg)  {f : Addr} {cdv : Value} {A : Around} {outer : List Env} {s : Shared} {H : Hp} (hr : Room (0) (A.deeper (envOfC "_law_cell" (defScope s__law_cell) s.heap.objs.size f cdv))) (ds : List D) (Q : O → Prop) (hS : (S__law_cell).S ds Q) :
    WSs (cxOf CX0 P w K mg base ["script", "k"] "_law_cell" (defScope s__law_cell) f cdv A outer s H E0).nox noX (defBody s__law_cell) (slots 2 ds) { nx := fun _ => Q (.va .non), rt := Q } := by
  have sc := sc__law_cell
  obtain ⟨ns, k, rfl, hp, hQ⟩ := hS
  refine ws_norm (ρ' := [_, _]) rfl ?_
  refine ws_cons ?_
  refine ws_if (et_lt (ee_var 1 rfl) (ee_len rfl T.m_len (ea_cons (ee_var 0 rfl) ea_nil) rfl)) (fun h2 => ?_) (fun h2 => ?_)
  · skip
    have hk : k < ns.length := by
      have := of_decide_eq_true h2
      rw [List.length_map] at this
      omega
    refine ws_one ?_
    refine ws_retE (ee_ix (ee_var 0 rfl) (ee_var 1 rfl) rfl (by exact atI_ints hk)) ?_
    walk_at "tg return"
  · skip
    have hk : ¬ k < ns.length := fun hk => by
      have := of_decide_eq_false h2
      rw [List.length_map] at this
      omega
    refine ws_nil ?_
    refine ws_one ?_
    refine ws_retE ee_int ?_
    rw [show ns.getD k 0 = 0 by simp [List.getD, List.getElem?_eq_none (Nat.not_lt.mp hk)]] at hQ; exact hQ
theorem cal__law_cell (T : Txt K mg)  : Cal P w K mg base 1 "_law_cell" S__law_cell [] :=
  cal_of (T.d__law_cell.fn (P := P) (w := w) (base := base) (S := S__law_cell) (k := 0) sc__law_cell (fun ds Q h => by obtain ⟨_, _, rfl, _⟩ := h; rfl) fun f cdv A outer s H hr ds Q hS => body__law_cell T  hr ds Q hS) 0 (by decide) (fun G => .nil)
theorem mod_range {x m : Int} (h : 0 < m) : 0 ≤ x % m ∧ x % m < m := ⟨Int.emod_nonneg _ (by omega), Int.emod_lt_of_pos _ h⟩
theorem all_snoc {P : Int → Prop} {ns : List Int} {x : Int} (h : ∀ y ∈ ns, P y) (hx : P x) : ∀ y ∈ ns ++ [x], P y := fun y hy => by
  rcases List.mem_append.mp hy with h' | h'
  · exact h y h'
  · rw [List.mem_singleton.mp h']; exact hx
theorem room_of {ns : List Int} {k : Nat} (h : ns.length = k) (hk : k < 1000) : (ns.map D.int).length < sizeLine := by
  rw [List.length_map, h]
  exact small1000 (by omega)
/-- the numbers of a cell, by both ways -/
def numA (cell : Int) : Nat → Int × List Int
  | 0 => (cell, [])
  | k + 1 => ((numA cell k).1 / 1000, (numA cell k).2 ++ [(numA cell k).1 % 1000])
def numB (cell : Int) : Nat → Int × List Int
  | 0 => (cell % 2147483647, [])
  | k + 1 => (((numB cell k).1 * 48271 + 69621 * ((k : Int) + 1)) % 2147483647, (numB cell k).2 ++ [((numB cell k).1 * 48271 + 69621 * ((k : Int) + 1)) % 2147483647 / 7 % 1000])
@[irreducible] def nums (cell : Int) (n : Nat) : List Int := if (10 : Int) ^ 18 ≤ cell then (numA cell n).2 else (numB cell n).2
theorem numA_ok (cell : Int) : ∀ n, (numA cell n).2.length = n ∧ ∀ x ∈ (numA cell n).2, 0 ≤ x ∧ x < 1000
  | 0 => ⟨rfl, fun x h => by cases h⟩
  | k + 1 => ⟨by show ((numA cell k).2 ++ [_]).length = k + 1; rw [List.length_append, (numA_ok cell k).1]; rfl, all_snoc (numA_ok cell k).2 (mod_range (by decide))⟩
theorem numB_ok (cell : Int) : ∀ n, (numB cell n).2.length = n ∧ ∀ x ∈ (numB cell n).2, 0 ≤ x ∧ x < 1000
  | 0 => ⟨rfl, fun x h => by cases h⟩
  | k + 1 => ⟨by show ((numB cell k).2 ++ [_]).length = k + 1; rw [List.length_append, (numB_ok cell k).1]; rfl, all_snoc (numB_ok cell k).2 (mod_range (by decide))⟩
theorem numB_m (cell : Int) : ∀ n, 0 ≤ (numB cell n).1 ∧ (numB cell n).1 < 2147483647
  | 0 => mod_range (by decide)
  | k + 1 => mod_range (by decide)
theorem nums_len (cell : Int) (n : Nat) : (nums cell n).length = n := by
  unfold nums; split
  · exact (numA_ok cell n).1
  · exact (numB_ok cell n).1
theorem nums_range (cell : Int) (n : Nat) : ∀ x ∈ nums cell n, 0 ≤ x ∧ x < 1000 := by
  unfold nums; split
  · exact (numA_ok cell n).2
  · exact (numB_ok cell n).2
theorem numA_end {cell : Int} {n : Nat} (h : (10 : Int) ^ 18 ≤ cell) : (numA cell n).2 = nums cell n := by unfold nums; rw [if_pos h]
theorem numB_end {cell : Int} {n : Nat} (h : ¬ (10 : Int) ^ 18 ≤ cell) : (numB cell n).2 = nums cell n := by unfold nums; rw [if_neg h]
abbrev S__law_numbers : Spc := ⟨fun ds Q => ∃ cell : Int, ∃ n : Nat, ds = [.int cell, .int (n : Int)] ∧ (n ≤ 1000) ∧ Q (.ml ((nums cell n).map .int)), fun _ _ _ kk_ ⟨cell, n, e_, p_, q_⟩ => ⟨cell, n, e_, p_, kk_ _ q_⟩⟩

theorem sc__law_numbers : FnScope ["cell", "count", "numbers", "k", "mixed"] ["cell", "count"] (defScope s__law_numbers) := ⟨rfl, rfl, rfl, by decide +kernel, rfl, by decide +kernel, by decide +kernel⟩
theorem body__law_numbers (T : Txt K mg)  {f : Addr} {cdv : Value} {A : Around} {outer : List Env} {s : Shared} {H : Hp} (hr : Room (0) (A.deeper (envOfC "_law_numbers" (defScope s__law_numbers) s.heap.objs.size f cdv))) (ds : List D) (Q : O → Prop) (hS : (S__law_numbers).S ds Q) :
    WSs (cxOf CX0 P w K mg base ["cell", "count", "numbers", "k", "mixed"] "_law_numbers" (defScope s__law_numbers) f cdv A outer s H E0).nox noX (defBody s__law_numbers) (slots 5 ds) { nx := fun _ => Q (.va .non), rt := Q } := by
  have sc := sc__law_numbers
  obtain ⟨cell, n, rfl, hn, hQ⟩ := hS
  refine ws_norm (ρ' := [_, _, _, _, _]) rfl ?_
  refine ws_cons ?_
  refine ws_setM 2 (eo_lst ea_nil) ?_ sc.nd
  refine ws_norm (ρ' := [_, _, _, _, _]) rfl ?_
  refine ws_cons ?_
  refine ws_if (et_ge (ee_var 0 rfl) (ee_pow ee_int ee_int (by exact ⟨by decide, by decide, by decide⟩))) (fun h3 => ?_) (fun h3 => ?_)
  · skip
    have hc : (10 : Int) ^ 18 ≤ cell := of_decide_eq_true h3
    refine ws_cons ?_
    refine ws_forR (fun k ρ => ρ = [.va (.int (numA cell k).1), .va (.int (n : Int)), .ml ((numA cell k).2.map .int), .un, .un]) T.m_range (ea_cons (ee_var 1 rfl) ea_nil) ?start4 nox_own ?turn4 ?fin4 (by omega)
    case start4 =>
      exact up_intro rfl (by walk_at "tg le")
    case turn4 =>
      intro k ρ hk hR
      subst hR
      refine ⟨_, (at_name 3 sc.nd), ?_⟩
      refine ws_norm (ρ' := [_, _, _, _, _]) rfl ?_
      refine ws_cons ?_
      refine ws_append 2 rfl (ee_mod (ee_toInt rfl T.m_int (ea_cons (ee_var 0 rfl) ea_nil)) ee_int (by walk_at "tg mod")) (by first | exact room_of (numA_ok cell k).1 (by omega) | exact room_of (numB_ok cell k).1 (by omega)) ?_
      refine ws_norm (ρ' := [_, _, _, _, _]) rfl ?_
      refine ws_one ?_
      refine ws_setE 0 (ee_div (ee_var 0 rfl) ee_int (by walk_at "tg div")) ?_ sc.nd
      rw [map_snoc]
      exact up_intro rfl (by walk_at "tg le")
    case fin4 =>
      intro ρ hR
      subst hR
      refine ws_one ?_
      refine ws_retM 2 rfl ?_
      rw [show ((n : Int)).toNat = n from Int.toNat_natCast n, numA_end hc]; exact hQ
  · skip
    have hc : ¬ (10 : Int) ^ 18 ≤ cell := of_decide_eq_false h3
    refine ws_nil ?_
    refine ws_cons ?_
    refine ws_setE 4 (ee_mod (ee_toInt rfl T.m_int (ea_cons (ee_var 0 rfl) ea_nil)) ee_int (by walk_at "tg mod")) ?_ sc.nd
    refine ws_norm (ρ' := [_, _, _, _, _]) rfl ?_
    refine ws_cons ?_
    refine ws_forR (fun k ρ => ρ = [.va (.int cell), .va (.int (n : Int)), .ml ((numB cell k).2.map .int), .un, .va (.int (numB cell k).1)]) T.m_range (ea_cons (ee_var 1 rfl) ea_nil) ?start9 nox_own ?turn9 ?fin9 (by omega)
    case start9 =>
      exact up_intro rfl (by walk_at "tg le")
    case turn9 =>
      intro k ρ hk hR
      subst hR
      have hm := numB_m cell k
      refine ⟨_, (at_name 3 sc.nd), ?_⟩
      refine ws_norm (ρ' := [_, _, _, _, _]) rfl ?_
      refine ws_cons ?_
      refine ws_setE 4 (ee_mod (ee_toInt rfl T.m_int (ea_cons (ee_add (ee_mul (ee_var 4 rfl) ee_int (by exact Sz.mulE (m := 31) (n := 16) (Sz.nn hm.1 (by omega)) (sz_lit rfl))) (ee_mul ee_int (ee_add (ee_var 3 rfl) ee_int) (by exact Sz.mulE (m := 17) (n := 31) (sz_lit rfl) (Sz.nn (by omega) (by omega))))) ea_nil)) ee_int (by walk_at "tg mod")) ?_ sc.nd
      refine ws_norm (ρ' := [_, _, _, _, _]) rfl ?_
      refine ws_one ?_
      refine ws_append 2 rfl (ee_mod (ee_div (ee_var 4 rfl) ee_int (by walk_at "tg div")) ee_int (by walk_at "tg mod")) (by first | exact room_of (numA_ok cell k).1 (by omega) | exact room_of (numB_ok cell k).1 (by omega)) ?_
      rw [map_snoc]
      exact up_intro rfl (by walk_at "tg le")
    case fin9 =>
      intro ρ hR
      subst hR
      refine ws_one ?_
      refine ws_retM 2 rfl ?_
      rw [show ((n : Int)).toNat = n from Int.toNat_natCast n, numB_end hc]; exact hQ
theorem cal__law_numbers (T : Txt K mg)  : Cal P w K mg base 1 "_law_numbers" S__law_numbers [] :=
  cal_of (T.d__law_numbers.fn (P := P) (w := w) (base := base) (S := S__law_numbers) (k := 0) sc__law_numbers (fun ds Q h => by obtain ⟨_, _, rfl, _⟩ := h; rfl) fun f cdv A outer s H hr ds Q hS => body__law_numbers T  hr ds Q hS) 0 (by decide) (fun G => .nil)
abbrev S__law_price : Spc := ⟨fun ds Q => ∃ tu : List Int, ∃ co : List Int, ds = [rwD tu, rwD co] ∧ (OrdL tu ∧ OrdL co) ∧ Q (.va (rq (accR fC (accR fT 0 tu) co))), fun _ _ _ kk_ ⟨tu, co, e_, p_, q_⟩ => ⟨tu, co, e_, p_, kk_ _ q_⟩⟩

theorem sc__law_price : FnScope ["turning", "corners", "total", "n"] ["turning", "corners"] (defScope s__law_price) := ⟨rfl, rfl, rfl, by decide +kernel, rfl, by decide +kernel, by decide +kernel⟩
theorem body__law_price (T : Txt K mg) (C__law_add : Cal P w K mg base 3 "_law_add" S__law_add []) (C__law_frac : Cal P w K mg base 2 "_law_frac" S__law_frac []) {f : Addr} {cdv : Value} {A : Around} {outer : List Env} {s : Shared} {H : Hp} (hr : Room (3) (A.deeper (envOfC "_law_price" (defScope s__law_price) s.heap.objs.size f cdv))) (ds : List D) (Q : O → Prop) (hS : (S__law_price).S ds Q) :
    WSs (cxOf CX0 P w K mg base ["turning", "corners", "total", "n"] "_law_price" (defScope s__law_price) f cdv A outer s H E0).nox noX (defBody s__law_price) (slots 4 ds) { nx := fun _ => Q (.va .non), rt := Q } := by
  have sc := sc__law_price
  obtain ⟨tu, co, rfl, ⟨hT, hC⟩, hQ⟩ := hS
  refine ws_norm (ρ' := [_, _, _, _]) rfl ?_
  have hq0 : Rz 1 0 := rz0
  refine ws_cons ?_
  refine ws_setE 2 (ee_tup (ea_cons ee_int (ea_cons ee_int ea_nil))) ?_ sc.nd
  refine ws_norm (ρ' := [_, _, _, _]) rfl ?_
  refine ws_abs 2 (fun d => d = rq 0) rfl (rfl) ?_
  rintro _ rfl
  refine ws_norm (ρ' := [_, _, _, _]) rfl ?_
  refine ws_cons ?_
  refine ws_forT (fun k ρ => ρ = [.va (rwD tu), .va (rwD co), .va (rq (accR fT 0 (tu.take k))), .un]) (ee_var 0 rfl) ?start3 nox_own ?turn3 ?fin3
  case start3 =>
    exact up_intro rfl (by walk_at "tg le")
  case turn3 =>
    intro k d ρ hk hR
    subst hR
    obtain ⟨hk', rfl⟩ := map_getK (f := D.int) (l := tu) 0 hk
    have hn := hT.2 _ (TG.getD_mem (x := 0) hk')
    have hz := acc_rz hT (fun n h => fT_rz h) hq0 k (by omega)
    have h4 := hT.1
    have hz2 := fT_rz hn
    have s1 : Sz 8 (tu.getD k 0) := Sz.nn (by omega) (by omega)
    refine ⟨_, (at_name 3 sc.nd), ?_⟩
    refine ws_norm (ρ' := [_, _, _, _]) rfl ?_
    refine ws_one ?_
    refine ws_setE 2 (ee_cal (C__law_add) (hr.mono (by decide)) (ea_cons (ee_var 2 rfl) (ea_cons (ee_cal (C__law_frac) (hr.mono (by decide)) (ea_cons (ee_sub (ee_var 3 rfl) ee_int) (ea_cons (ee_var 3 rfl) ea_nil)) (by exact ⟨_, _, rfl, ⟨by omega, by first | exact s1.mono (by decide) | exact ((sz_num (n := 2)).mul s1).mono (by decide) | exact (sz_num (n := 1)).mono (by decide)⟩, rfl⟩)) ea_nil)) (by exact ⟨_, _, rfl, ⟨hz.mono (by omega), hz2.mono (by decide)⟩, rfl⟩)) ?_ sc.nd
    rw [show accR fT 0 (tu.take k) + Rat.divInt (tu.getD k 0 - 1) (tu.getD k 0) = accR fT 0 (tu.take (k + 1)) from (accR_next fT _ hk').symm]
    exact up_intro rfl (by walk_at "tg le")
  case fin3 =>
    intro ρ hR
    subst hR
    rw [List.length_map, List.take_length]
    refine ws_cons ?_
    refine ws_forT (fun k ρ => ρ = [.va (rwD tu), .va (rwD co), .va (rq (accR fC (accR fT 0 tu) (co.take k))), .un]) (ee_var 1 rfl) ?start5 nox_own ?turn5 ?fin5
    case start5 =>
      exact up_intro rfl (by walk_at "tg le")
    case turn5 =>
      intro k d ρ hk hR
      subst hR
      obtain ⟨hk', rfl⟩ := map_getK (f := D.int) (l := co) 0 hk
      have hn := hC.2 _ (TG.getD_mem (x := 0) hk')
      have hz := acc_rz hC (fun n h => fC_rz h) (acc_rz hT (fun n h => fT_rz h) hq0 tu.length (Nat.le_refl _)) k (by omega)
      rw [List.take_length] at hz
      have h4 := hT.1
      have h5 := hC.1
      have hz2 := fC_rz hn
      have s1 : Sz 8 (co.getD k 0) := Sz.nn (by omega) (by omega)
      refine ⟨_, (at_name 3 sc.nd), ?_⟩
      refine ws_norm (ρ' := [_, _, _, _]) rfl ?_
      refine ws_one ?_
      refine ws_setE 2 (ee_cal (C__law_add) (hr.mono (by decide)) (ea_cons (ee_var 2 rfl) (ea_cons (ee_cal (C__law_frac) (hr.mono (by decide)) (ea_cons (ee_sub (ee_var 3 rfl) ee_int) (ea_cons (ee_mul ee_int (ee_var 3 rfl) (by walk_at "tg mul")) ea_nil)) (by exact ⟨_, _, rfl, ⟨by omega, by first | exact s1.mono (by decide) | exact ((sz_num (n := 2)).mul s1).mono (by decide) | exact (sz_num (n := 1)).mono (by decide)⟩, rfl⟩)) ea_nil)) (by exact ⟨_, _, rfl, ⟨hz.mono (by omega), hz2.mono (by decide)⟩, rfl⟩)) ?_ sc.nd
      rw [show accR fC (accR fT 0 tu) (co.take k) + Rat.divInt (co.getD k 0 - 1) (2 * co.getD k 0) = accR fC (accR fT 0 tu) (co.take (k + 1)) from (accR_next fC _ hk').symm]
      exact up_intro rfl (by walk_at "tg le")
    case fin5 =>
      intro ρ hR
      subst hR
      rw [List.length_map, List.take_length]
      refine ws_one ?_
      refine ws_retE (ee_var 2 rfl) ?_
      walk_at "tg return"
theorem cal__law_price (T : Txt K mg) (C__law_add : Cal P w K mg base 3 "_law_add" S__law_add []) (C__law_frac : Cal P w K mg base 2 "_law_frac" S__law_frac []) : Cal P w K mg base 4 "_law_price" S__law_price [] :=
  cal_of (T.d__law_price.fn (P := P) (w := w) (base := base) (S := S__law_price) (k := 3) sc__law_price (fun ds Q h => by obtain ⟨_, _, rfl, _⟩ := h; rfl) fun f cdv A outer s H hr ds Q hS => body__law_price T C__law_add C__law_frac hr ds Q hS) 0 (by decide) (fun G => .nil)
theorem same_bool (t : Bool) : (!D.eqv (.bl t) (.bl t)) = false := by cases t <;> rfl
abbrev S__law_same (n : Nat) : Spc := ⟨fun ds Q => ∃ d : D, ds = [d, d] ∧ (d.plain = true ∧ d.depth ≤ n) ∧ Q (.va (.bl true)), fun _ _ _ kk_ ⟨d, e_, p_, q_⟩ => ⟨d, e_, p_, kk_ _ q_⟩⟩
abbrev S8 : Spc := S__law_same 8
theorem sc__law_same : FnScope ["actual", "due", "k"] ["actual", "due"] (defScope s__law_same) := ⟨rfl, rfl, rfl, by decide +kernel, rfl, by decide +kernel, by decide +kernel⟩
theorem body__law_same (T : Txt K mg)  (n : Nat) (hrec : ∀ m, m < n → Cal P w K mg base (m + 1) "_law_same" (S__law_same m) []) {f : Addr} {cdv : Value} {A : Around} {outer : List Env} {s : Shared} {H : Hp} (hr : Room (n) (A.deeper (envOfC "_law_same" (defScope s__law_same) s.heap.objs.size f cdv))) (ds : List D) (Q : O → Prop) (hS : (S__law_same n).S ds Q) :
    WSs (cxOf CX0 P w K mg base ["actual", "due", "k"] "_law_same" (defScope s__law_same) f cdv A outer s H E0).nox noX (defBody s__law_same) (slots 3 ds) { nx := fun _ => Q (.va .non), rt := Q } := by
  have sc := sc__law_same
  obtain ⟨d, rfl, ⟨hp, hd⟩, hQ⟩ := hS
  have hty := tyN_plain hp
  refine ws_norm (ρ' := [_, _, _]) rfl ?_
  refine ws_cons ?_
  refine ws_if (et_isN (ee_var 1 rfl)) (fun h2 => ?_) (fun h2 => ?_)
  · skip
    have he : d.isN = true := h2
    refine ws_one ?_
    refine ws_retE (ee_isN (ee_var 0 rfl)) ?_
    rw [show d.isN = true from h2]; exact hQ
  · skip
    refine ws_nil ?_
    refine ws_cons ?_
    refine ws_if (EW.et (ew_or (et_val (ee_isA rfl T.m_isinstance (ea_cons (ee_var 1 rfl) (ea_cons (ee_ty rfl T.m_list bt_list) ea_nil)) (by decide) (by assumption))) (fun hv => (ew_or1 (et_val (ee_isA rfl T.m_isinstance (ea_cons (ee_var 1 rfl) (ea_cons (ee_ty rfl T.m_tuple bt_tuple) ea_nil)) (by decide) (by assumption))))))) (fun h4 => ?_) (fun h4 => ?_)
    · skip
      obtain ⟨is, hi, hpi, hdi⟩ := isA_items h4
      rw [hpi] at hp
      refine ws_cons ?_
      refine ws_if (EW.et (ew_or (et_ne hr.units (ee_isA rfl T.m_isinstance (ea_cons (ee_var 1 rfl) (ea_cons (ee_ty rfl T.m_list bt_list) ea_nil)) (by decide) (by assumption)) (ee_isA rfl T.m_isinstance (ea_cons (ee_var 0 rfl) (ea_cons (ee_ty rfl T.m_list bt_list) ea_nil)) (by decide) (by assumption)) (by rfl) (by rfl)) (fun hv => (ew_or1 (et_ne hr.units (ee_isA rfl T.m_isinstance (ea_cons (ee_var 1 rfl) (ea_cons (ee_ty rfl T.m_tuple bt_tuple) ea_nil)) (by decide) (by assumption)) (ee_isA rfl T.m_isinstance (ea_cons (ee_var 0 rfl) (ea_cons (ee_ty rfl T.m_tuple bt_tuple) ea_nil)) (by decide) (by assumption)) (by rfl) (by rfl)))))) (fun h5 => ?_) (fun h5 => ?_)
      · skip
        rw [same_bool, same_bool] at h5
        exact absurd h5 (by decide)
      · skip
        refine ws_nil ?_
        refine ws_cons ?_
        refine ws_if (et_neI hr.units (ee_len rfl T.m_len (ea_cons (ee_var 0 rfl) ea_nil) (by exact hi)) (ee_len rfl T.m_len (ea_cons (ee_var 1 rfl) ea_nil) (by exact hi))) (fun h7 => ?_) (fun h7 => ?_)
        · skip
          exact absurd h7 (by simp)
        · skip
          refine ws_nil ?_
          refine ws_len 1 rfl hi fun hline => ?_
          refine ws_cons ?_
          refine ws_forR (fun k ρ => ρ = [.va d, .va d, .un]) T.m_range (ea_cons (ee_len rfl T.m_len (ea_cons (ee_var 1 rfl) ea_nil) (by exact hi)) ea_nil) ?start9 nox_own ?turn9 ?fin9 (by exact line_lt hline)
          case start9 =>
            exact Up.of rfl
          case turn9 =>
            intro k ρ hk hR
            subst hR
            have hk' : k < is.length := by omega
            have hg := List.getElem?_eq_getElem hk'
            have hp' := plains_get hp hg
            have hd' := depths_get hg
            obtain ⟨m, rfl⟩ : ∃ m, n = m + 1 := ⟨n - 1, by omega⟩
            refine ⟨_, (at_name 2 sc.nd), ?_⟩
            refine ws_norm (ρ' := [_, _, _]) rfl ?_
            refine ws_one ?_
            refine ws_if (et_not (et_val (ee_cal (hrec m (by omega)) hr (ea_cons (ee_ix (ee_var 0 rfl) (ee_var 2 rfl) hi (atI_of hk')) (ea_cons (ee_ix (ee_var 1 rfl) (ee_var 2 rfl) hi (atI_of hk')) ea_nil)) (by exact ⟨_, rfl, ⟨hp', by omega⟩, rfl⟩)))) (fun h10 => ?_) (fun h10 => ?_)
            · skip
              exact absurd h10 (by decide)
            · skip
              refine ws_nil ?_
              exact up_intro rfl (by walk_at "tg le")
          case fin9 =>
            intro ρ hR
            subst hR
            refine ws_one ?_
            refine ws_retE ee_bl ?_
            walk_at "tg return"
    · skip
      have hd0 := isA_flat h4
      refine ws_nil ?_
      refine ws_cons ?_
      refine ws_if (EW.et (ew_or (et_ne hr.units (ee_isA rfl T.m_isinstance (ea_cons (ee_var 1 rfl) (ea_cons (ee_ty rfl T.m_bool bt_bool) ea_nil)) (by decide) (by assumption)) (ee_isA rfl T.m_isinstance (ea_cons (ee_var 0 rfl) (ea_cons (ee_ty rfl T.m_bool bt_bool) ea_nil)) (by decide) (by assumption)) (by walk_at "tg cmp") (by walk_at "tg cmp")) (fun hv => (ew_or1 (et_ne hr.units (ee_isA rfl T.m_isinstance (ea_cons (ee_var 1 rfl) (ea_cons (ee_ty rfl T.m_int bt_int) ea_nil)) (by decide) (by assumption)) (ee_isA rfl T.m_isinstance (ea_cons (ee_var 0 rfl) (ea_cons (ee_ty rfl T.m_int bt_int) ea_nil)) (by decide) (by assumption)) (by walk_at "tg cmp") (by walk_at "tg cmp")))))) (fun h13 => ?_) (fun h13 => ?_)
      · skip
        rw [same_bool, same_bool] at h13
        exact absurd h13 (by decide)
      · skip
        refine ws_nil ?_
        refine ws_one ?_
        refine ws_retE (ee_and (ee_eq hr.units (ee_isA rfl T.m_isinstance (ea_cons (ee_var 1 rfl) (ea_cons (ee_ty rfl T.m_str bt_str) ea_nil)) (by decide) (by assumption)) (ee_isA rfl T.m_isinstance (ea_cons (ee_var 0 rfl) (ea_cons (ee_ty rfl T.m_str bt_str) ea_nil)) (by decide) (by assumption)) (by rfl) (by rfl)) (fun hv => (ee_one (ee_eq hr.units (ee_var 0 rfl) (ee_var 1 rfl) (by unfold D.cmp; rw [hp, hd0]; rfl) (by unfold D.cmp; rw [hp, hd0]; rfl))))) ?_
        rw [eqv_self d hp, show D.eqv (.bl (d.isA "str")) (.bl (d.isA "str")) = true from eqv_self _ rfl]; exact hQ
theorem same_all (T : Txt K mg) (n : Nat) : Cal P w K mg base (n + 1) "_law_same" (S__law_same n) [] := by
  induction n using Nat.strongRecOn with
  | _ n ih => exact cal_of (T.d__law_same.fn (P := P) (w := w) (base := base) (S := S__law_same n) (k := n) sc__law_same (fun ds Q h => by obtain ⟨_, rfl, _⟩ := h; rfl) fun f cdv A outer s H hr ds Q hS => body__law_same T n ih hr ds Q hS) 0 (by decide) (fun G => .nil)
theorem cal__law_same (T : Txt K mg) : Cal P w K mg base 9 "_law_same" S8 [] := same_all T 8
abbrev S_ascending_rows : Spc := ⟨fun ds Q => ds = [.int 4, .int 2, .int 6] ∧ (True) ∧ Q (.ml ((rowsA 4).map rwD)), fun _ _ _ kk_ ⟨e_, p_, q_⟩ => ⟨e_, p_, kk_ _ q_⟩⟩

theorem sc_ascending_rows : FnScope ["length", "least", "most", "rows", "last", "_", "row", "n"] ["length", "least", "most"] (defScope s_ascending_rows) := ⟨rfl, rfl, rfl, by decide +kernel, rfl, by decide +kernel, by decide +kernel⟩
theorem body_ascending_rows (T : Txt K mg)  {f : Addr} {cdv : Value} {A : Around} {outer : List Env} {s : Shared} {H : Hp} (hr : Room (0) (A.deeper (envOfC "ascending_rows" (defScope s_ascending_rows) s.heap.objs.size f cdv))) (ds : List D) (Q : O → Prop) (hS : (S_ascending_rows).S ds Q) :
    WSs (cxOf CX0 P w K mg base ["length", "least", "most", "rows", "last", "_", "row", "n"] "ascending_rows" (defScope s_ascending_rows) f cdv A outer s H E0).nox noX (defBody s_ascending_rows) (slots 8 ds) { nx := fun _ => Q (.va .non), rt := Q } := by
  have sc := sc_ascending_rows
  obtain ⟨rfl, hp, hQ⟩ := hS
  refine ws_norm (ρ' := [_, _, _, _, _, _, _, _]) rfl ?_
  refine ws_cons ?_
  refine ws_setM 3 (eo_lst (ea_cons (ee_tup ea_nil) ea_nil)) ?_ sc.nd
  refine ws_norm (ρ' := [_, _, _, _, _, _, _, _]) rfl ?_
  refine ws_cons ?_
  refine ws_setM 4 (eo_lst (ea_cons (ee_tup ea_nil) ea_nil)) ?_ sc.nd
  refine ws_norm (ρ' := [_, _, _, _, _, _, _, _]) rfl ?_
  refine ws_freeze 4 rfl ?_
  refine ws_norm (ρ' := [_, _, _, _, _, _, _, _]) rfl ?_
  refine ws_cons ?_
  refine ws_forR (fun k ρ => ρ = [.va (.int 4), .va (.int 2), .va (.int 6), .ml ((rowsA k).map rwD), .va (.lst ((lastA k).map rwD)), .un, .un, .un]) T.m_range (ea_cons (ee_var 0 rfl) ea_nil) ?start4 nox_own ?turn4 ?fin4 (by decide)
  case start4 =>
    exact up_intro rfl (by walk_at "tg le")
  case turn4 =>
    intro k ρ hk hR
    subst hR
    obtain ⟨hl1, hl2⟩ := lastA_len k (by omega)
    refine ⟨_, (at_name 5 sc.nd), ?_⟩
    refine ws_norm (ρ' := [_, _, _, _, _, _, _, _]) rfl ?_
    refine ws_cons ?_
    refine ws_setLc2 4 (f := outer_) [("row", 6), ("n", 7)] [7] (ei_lst (ee_var 4 rfl)) sc.nd (blkOk_by (N := ["length", "least", "most", "rows", "last", "_", "row", "n"]) (sc := defScope s_ascending_rows) (by first | decide +kernel | kernel_rfl)) (by decide) (by rw [picks_outer, List.length_map]; exact Nat.le_trans hl1 (by decide)) ?turn5 ?nx5
    case turn5 =>
      intro i d hi
      obtain ⟨hi', rfl⟩ := map_getK (f := rwD) (l := lastA k) [] hi
      have hrm := lastA_mem k (by omega) _ (getD_mem (x := []) hi')
      generalize (lastA k).getD i [] = r at *
      refine ⟨_, _, fun _ _ _ _ _ => (ab_name 6 (by decide) sc.nd), fun _ _ _ _ _ => ets_nil, fun ht => ⟨upTo 2 ((6 : Int) + 1 - 2).toNat, inner r, (by rw [range5]; unfold outer_; rw [unr_rw]), fun _ _ _ _ _ => (ei_range2 T.m_range (ea_cons (ee_var 1 rfl) (ea_cons (ee_add (ee_var 2 rfl) ee_int) ea_nil)) (by decide)), ?_⟩, fun hf => absurd hf (by decide)⟩
      intro j d hj
      obtain ⟨hj', rfl⟩ := upTo_get hj
      refine ⟨_, _, fun _ _ _ _ _ => (ab_name 7 (by decide) sc.nd), fun _ _ _ _ _ => (ets_one (EW.et (ew_or (et_eq hr.units (ee_var 6 rfl) (ee_tup ea_nil) (by first | exact rw_cmp _ | rfl) (by first | exact rw_cmp _ | rfl)) (fun hv => (ew_or1 (et_le (ee_ix (ee_var 6 rfl) (ee_neg ee_int) rfl (by exact last_at (fun z => by rw [rw_nil, decide_eq_true z] at hv; cases hv))) (ee_var 7 rfl))))))), fun ht => ⟨_, (by rw [rw_nil] at ht; exact if_pos ht), fun _ _ _ _ _ => (ee_catT (ee_var 6 rfl) (ee_tup (ea_cons (ee_var 7 rfl) ea_nil)) (by rw [List.length_map]; exact Nat.le_trans (Nat.add_le_add_right hrm 1) (by decide)))⟩, fun hf => (by rw [rw_nil] at hf; exact if_neg (by unfold okN; rw [hf]; exact Bool.false_ne_true))⟩
    case nx5 =>
      refine ws_norm (ρ' := [_, _, _, _, _, _, _, _]) rfl ?_
      refine ws_freeze 4 rfl ?_
      refine ws_norm (ρ' := [_, _, _, _, _, _, _, _]) rfl ?_
      rw [picks_outer]
      refine ws_one ?_
      refine ws_extend 3 rfl (ee_var 4 rfl) (by rw [List.length_map, List.length_map]; exact Nat.le_trans hl2 (by decide)) ?_
      rw [rows_next]
      exact up_intro rfl (by walk_at "tg le")
  case fin4 =>
    intro ρ hR
    subst hR
    refine ws_one ?_
    refine ws_retM 3 rfl ?_
    walk_at "tg return"
theorem cal_ascending_rows (T : Txt K mg)  : Cal P w K mg base 1 "ascending_rows" S_ascending_rows [] :=
  cal_of (T.d_ascending_rows.fn (P := P) (w := w) (base := base) (S := S_ascending_rows) (k := 0) sc_ascending_rows (fun ds Q h => by obtain ⟨rfl, _⟩ := h; rfl) fun f cdv A outer s H hr ds Q hS => body_ascending_rows T  hr ds Q hS) 0 (by decide) (fun G => .nil)
abbrev S_all_signatures : Spc := ⟨fun ds Q => ds = [] ∧ (True) ∧ Q (.ml (srt (foundA.map sgD))), fun _ _ _ kk_ ⟨e_, p_, q_⟩ => ⟨e_, p_, kk_ _ q_⟩⟩

theorem sc_all_signatures : FnScope ["rows", "n", "row", "entry", "found", "turning", "price", "corners", "double", "rims", "missing"] [] (defScope s_all_signatures) := ⟨rfl, rfl, rfl, by decide +kernel, rfl, by decide +kernel, by decide +kernel⟩
theorem body_all_signatures (T : Txt K mg) (C_ascending_rows : Cal P w K mg base 1 "ascending_rows" S_ascending_rows []) {f : Addr} {cdv : Value} {A : Around} {outer : List Env} {s : Shared} {H : Hp} (hr : Room (1) (A.deeper (envOfC "all_signatures" (defScope s_all_signatures) s.heap.objs.size f cdv))) (ds : List D) (Q : O → Prop) (hS : (S_all_signatures).S ds Q) :
    WSs (cxOf CX0 P w K mg base ["rows", "n", "row", "entry", "found", "turning", "price", "corners", "double", "rims", "missing"] "all_signatures" (defScope s_all_signatures) f cdv A outer s H E0).nox noX (defBody s_all_signatures) (slots 11 ds) { nx := fun _ => Q (.va .non), rt := Q } := by
  have sc := sc_all_signatures
  obtain ⟨rfl, hp, hQ⟩ := hS
  refine ws_norm (ρ' := [_, _, _, _, _, _, _, _, _, _, _]) rfl ?_
  refine ws_cons ?_
  refine ws_setLc 0 (f := fun _ d => some (enD (unr d, prA (unr d)))) [("row", 2)] (ei_lst (ee_lst (eo_cal (C_ascending_rows) (hr.mono (by decide)) (ea_cons ee_int (ea_cons ee_int (ea_cons ee_int ea_nil))) (by exact ⟨rfl, (by walk_at "tg pre"), rfl⟩)))) sc.nd (blkOk_by (N := ["rows", "n", "row", "entry", "found", "turning", "price", "corners", "double", "rims", "missing"]) (sc := defScope s_all_signatures) (by first | decide +kernel | kernel_rfl)) (by rw [List.length_map]; exact Nat.le_trans rowsA_len (by decide)) ?turn2 ?nx2
  case turn2 =>
    intro k d hk
    obtain ⟨hk', rfl⟩ := map_getK (f := rwD) (l := rowsA 4) [] hk
    obtain ⟨hrl, hrn⟩ := rowsA_ok _ (getD_mem (x := []) hk')
    generalize (rowsA 4).getD k [] = r at *
    refine ⟨_, _, fun _ _ _ _ _ => (ab_name 2 (by decide) sc.nd), fun _ _ _ _ _ => ets_nil, fun ht => ?_, fun hf => ?_⟩
    · skip
      exact ⟨_, (by show some (enD (unr (rwD r), prA (unr (rwD r)))) = _; rw [unr_rw]; rfl), fun _ _ _ _ _ => (ee_tup (ea_cons (ee_var 2 rfl) (ea_cons (ee_sum rfl T.m_sum (ea_cons (ee_lst (eo_lc (f := iF fun n => (120 * (n - 1)).fdiv n) [("n", 1)] (ei_tup (ee_var 2 rfl)) sc.nd (blkOk_by (N := ["rows", "n", "row", "entry", "found", "turning", "price", "corners", "double", "rims", "missing"]) (sc := _) (by first | decide +kernel | kernel_rfl)) (by rw [List.length_map]; exact Nat.le_trans hrl (by decide)) (by intro j d hj; obtain ⟨hj', rfl⟩ := map_getK (f := D.int) (l := r) 0 hj; have hn := hrn _ (getD_mem (x := 0) hj'); have hsn : Sz 4 (r.getD j 0) := Sz.nn (by omega) (by omega); exact ⟨_, _, fun _ _ _ _ _ => (ab_name 1 (by decide) sc.nd), fun _ _ _ _ _ => ets_nil, fun ht => ⟨_, rfl, fun _ _ _ _ _ => (ee_fdiv (ee_mul (ee_con T.c_UNIT) (ee_sub (ee_var 1 rfl) ee_int) (by walk_at "tg mul")) (ee_var 1 rfl) (by exact hsn.div (by omega)))⟩, fun hf => absurd hf (by decide)⟩))) ea_nil) (by exact pick_ints r 0)) ea_nil)))⟩
    · skip
      exact absurd hf (by decide)
  case nx2 =>
    refine ws_norm (ρ' := [_, _, _, _, _, _, _, _, _, _, _]) rfl ?_
    refine ws_freeze 0 rfl ?_
    refine ws_norm (ρ' := [_, _, _, _, _, _, _, _, _, _, _]) rfl ?_
    refine ws_abs 0 (fun d => d = .lst (rowsP.map enD)) rfl (congrArg D.lst rows_first) ?_
    rintro _ rfl
    refine ws_norm (ρ' := [_, _, _, _, _, _, _, _, _, _, _]) rfl ?_
    refine ws_cons ?_
    refine ws_setLc 0 (f := fun _ d => match d with | .tup [_, .int p] => (if decide (p ≤ 2 * 120) = true then some d else none) | _ => none) [("entry", 3)] (ei_lst (ee_var 0 rfl)) sc.nd (blkOk_by (N := ["rows", "n", "row", "entry", "found", "turning", "price", "corners", "double", "rims", "missing"]) (sc := defScope s_all_signatures) (by first | decide +kernel | kernel_rfl)) (by rw [List.length_map]; exact Nat.le_trans (by unfold rowsP; rw [List.length_map]; exact rowsA_len) (by decide)) ?turn3 ?nx3
    case turn3 =>
      intro k d hk
      obtain ⟨hk', rfl⟩ := map_getK (f := enD) (l := rowsP) ([], 0) hk
      refine ⟨_, _, fun _ _ _ _ _ => (ab_name 3 (by decide) sc.nd), fun _ _ _ _ _ => (ets_one (et_le (ee_ix (ee_var 3 rfl) ee_int rfl rfl) (ee_mul ee_int (ee_con T.c_UNIT) (by walk_at "tg mul")))), fun ht => ?_, fun hf => ?_⟩
      · skip
        exact ⟨_, (if_pos ht), fun _ _ _ _ _ => (ee_var 3 rfl)⟩
      · skip
        exact if_neg (by rw [hf]; exact Bool.false_ne_true)
    case nx3 =>
      refine ws_norm (ρ' := [_, _, _, _, _, _, _, _, _, _, _]) rfl ?_
      refine ws_freeze 0 rfl ?_
      refine ws_norm (ρ' := [_, _, _, _, _, _, _, _, _, _, _]) rfl ?_
      refine ws_abs 0 (fun d => d = .lst (rowsF.map enD)) rfl (congrArg D.lst rows_second) ?_
      rintro _ rfl
      refine ws_norm (ρ' := [_, _, _, _, _, _, _, _, _, _, _]) rfl ?_
      refine ws_cons ?_
      refine ws_setM 4 (eo_lst ea_nil) ?_ sc.nd
      refine ws_norm (ρ' := [_, _, _, _, _, _, _, _, _, _, _]) rfl ?_
      refine ws_cons ?_
      refine ws_forL (fun i ρ => ∃ l : List D, ρ = [.va (.lst (rowsF.map enD)), .un, .un, .un, .ml l, .un, .un, .un, .un, .un, .un] ∧ l = ((rowsF.take i).flatMap outA).map sgD) (ee_var 0 rfl) ?start5 nox_own ?turn5 ?fin5
      case start5 =>
        exact up_intro ⟨_, rfl, rfl⟩ (by walk_at "tg le")
      case turn5 =>
        intro i d ρ hi hR
        obtain ⟨l, rfl, hl⟩ := hR
        obtain ⟨hi', rfl⟩ := map_getK (f := enD) (l := rowsF) ([], 0) hi
        obtain ⟨p1, p2⟩ := rowsF_ok _ (getD_mem (x := ([], 0)) hi')
        have z1 : Sz 9 (rowsF.getD i ([], 0)).2 := Sz.nn (by omega) (by omega)
        refine ⟨_, (at_tup (ats_cons (at_name 5 sc.nd) (ats_cons (at_name 6 sc.nd) ats_nil))), ?_⟩
        refine ws_norm (ρ' := [_, _, _, _, _, _, _, _, _, _, _]) rfl ?_
        refine ws_one ?_
        refine ws_forL (fun j ρ => ∃ l : List D, ρ = [.va (.lst (rowsF.map enD)), .un, .un, .un, .ml l, .va (rwD (rowsF.getD i ([], 0)).1), .va (.int (rowsF.getD i ([], 0)).2), .un, .un, .un, .un] ∧ l = ((rowsF.take i).flatMap outA ++ (rowsF.take j).flatMap (midA (rowsF.getD i ([], 0)))).map sgD) (ee_var 0 rfl) ?start6 nox_own ?turn6 ?fin6
        case start6 =>
          exact up_intro ⟨_, rfl, by rw [List.take_zero, List.flatMap_nil, List.append_nil, ← hl]⟩ (by walk_at "tg le")
        case turn6 =>
          intro j d ρ hj hR
          obtain ⟨l, rfl, hl⟩ := hR
          obtain ⟨hj', rfl⟩ := map_getK (f := enD) (l := rowsF) ([], 0) hj
          obtain ⟨q1, q2⟩ := rowsF_ok _ (getD_mem (x := ([], 0)) hj')
          have z2 : Sz 9 (rowsF.getD j ([], 0)).2 := Sz.nn (by omega) (by omega)
          refine ⟨_, (at_tup (ats_cons (at_name 7 sc.nd) (ats_cons (at_name 8 sc.nd) ats_nil))), ?_⟩
          refine ws_norm (ρ' := [_, _, _, _, _, _, _, _, _, _, _]) rfl ?_
          refine ws_one ?_
          refine ws_forR (fun m ρ => ∃ l : List D, ρ = [.va (.lst (rowsF.map enD)), .un, .un, .un, .ml l, .va (rwD (rowsF.getD i ([], 0)).1), .va (.int (rowsF.getD i ([], 0)).2), .va (rwD (rowsF.getD j ([], 0)).1), .va (.int (rowsF.getD j ([], 0)).2), .un, .un] ∧ l = (((rowsF.take i).flatMap outA ++ (rowsF.take j).flatMap (midA (rowsF.getD i ([], 0)))) ++ (List.range m).flatMap (sigA (rowsF.getD i ([], 0)) (rowsF.getD j ([], 0)))).map sgD) T.m_range (ea_cons ee_int ea_nil) ?start7 nox_own ?turn7 ?fin7 (by decide)
          case start7 =>
            exact up_intro ⟨_, rfl, by rw [List.range_zero, List.flatMap_nil, List.append_nil, ← hl]⟩ (by walk_at "tg le")
          case turn7 =>
            intro m ρ hm hR
            obtain ⟨l, rfl, hl⟩ := hR
            have zm : Sz 3 (m : Int) := Sz.nn (by omega) (by omega)
            have l1 := List.length_take_le' i rowsF
            have l2 := List.length_take_le' j rowsF
            have l3 := rowsF_len
            have l4 := flat_len (l := rowsF.take i) (f := outA) outA_len
            have l5 := flat_len (l := rowsF.take j) (f := midA (rowsF.getD i ([], 0))) (midA_len _)
            have l6 := flat_len (l := List.range m) (f := sigA (rowsF.getD i ([], 0)) (rowsF.getD j ([], 0))) (sigA_len _ _)
            rw [List.length_range] at l6
            refine ⟨_, (at_name 9 sc.nd), ?_⟩
            refine ws_norm (ρ' := [_, _, _, _, _, _, _, _, _, _, _]) rfl ?_
            refine ws_cons ?_
            refine ws_setE 10 (ee_sub (ee_sub (ee_sub (ee_mul ee_int (ee_con T.c_UNIT) (by walk_at "tg mul")) (ee_var 6 rfl)) (ee_div (ee_var 8 rfl) ee_int (by exact ⟨by decide, by decide⟩))) (ee_mul (ee_var 9 rfl) (ee_con T.c_UNIT) (by walk_at "tg mul"))) ?_ sc.nd
            refine ws_norm (ρ' := [_, _, _, _, _, _, _, _, _, _, _]) rfl ?_
            refine ws_abs 10 (fun d => d = .int (mis (rowsF.getD i ([], 0)) (rowsF.getD j ([], 0)) m)) rfl (rfl) ?_
            rintro _ rfl
            refine ws_norm (ρ' := [_, _, _, _, _, _, _, _, _, _, _]) rfl ?_
            refine ws_one ?_
            refine ws_if (EW.et (ew_and (et_ge (ee_var 10 rfl) ee_int) (fun hv => (ew_and (et_eqI hr.units (ee_mod (ee_var 10 rfl) (ee_con T.c_UNIT) (by decide)) ee_int) (fun hv => (ew_and1 (EW.et (ew_or (et_gt (ee_var 9 rfl) ee_int) (fun hv => (ew_or1 (et_eq hr.units (ee_var 7 rfl) (ee_tup ea_nil) (by first | exact rw_cmp _ | rfl) (by first | exact rw_cmp _ | rfl)))))))))))) (fun h9 => ?_) (fun h9 => ?_)
            · skip
              rw [rw_nil] at h9
              have hsg : sigA (rowsF.getD i ([], 0)) (rowsF.getD j ([], 0)) m = _ := if_pos h9
              refine ws_cons ?_
              refine ws_append 4 rfl (ee_tup (ea_cons (ee_var 5 rfl) (ea_cons (ee_var 7 rfl) (ea_cons (ee_var 9 rfl) (ea_cons (ee_fdiv (ee_var 10 rfl) (ee_con T.c_UNIT) (by exact ⟨by decide, by decide⟩)) (ea_cons ee_int ea_nil)))))) (by first | (rw [hl, List.length_map, List.length_append, List.length_append]; exact line_of (by omega)) | (rw [List.length_append, hl, List.length_map, List.length_append, List.length_append]; exact line_of (by simp only [List.length_cons, List.length_nil]; omega))) ?_
              refine ws_norm (ρ' := [_, _, _, _, _, _, _, _, _, _, _]) rfl ?_
              refine ws_one ?_
              refine ws_if (et_eqI hr.units (ee_var 10 rfl) (ee_mul ee_int (ee_con T.c_UNIT) (by walk_at "tg mul"))) (fun h11 => ?_) (fun h11 => ?_)
              · skip
                have hl4 : l ++ [sgD ((rowsF.getD i ([], 0)).1, (rowsF.getD j ([], 0)).1, (m : Int), (mis (rowsF.getD i ([], 0)) (rowsF.getD j ([], 0)) m).fdiv 120, 0)] ++ [sgD ((rowsF.getD i ([], 0)).1, (rowsF.getD j ([], 0)).1, (m : Int), 0, 1)] = (((rowsF.take i).flatMap outA ++ (rowsF.take j).flatMap (midA (rowsF.getD i ([], 0)))) ++ (List.range (m + 1)).flatMap (sigA (rowsF.getD i ([], 0)) (rowsF.getD j ([], 0)))).map sgD := by rw [range_flat, hsg, if_pos h11, hl]; simp
                refine ws_one ?_
                refine ws_append 4 rfl (ee_tup (ea_cons (ee_var 5 rfl) (ea_cons (ee_var 7 rfl) (ea_cons (ee_var 9 rfl) (ea_cons ee_int (ea_cons ee_int ea_nil)))))) (by first | (rw [hl, List.length_map, List.length_append, List.length_append]; exact line_of (by omega)) | (rw [List.length_append, hl, List.length_map, List.length_append, List.length_append]; exact line_of (by simp only [List.length_cons, List.length_nil]; omega))) ?_
                exact up_intro ⟨_, rfl, hl4⟩ (by walk_at "tg le")
              · skip
                have hl4 : l ++ [sgD ((rowsF.getD i ([], 0)).1, (rowsF.getD j ([], 0)).1, (m : Int), (mis (rowsF.getD i ([], 0)) (rowsF.getD j ([], 0)) m).fdiv 120, 0)] = (((rowsF.take i).flatMap outA ++ (rowsF.take j).flatMap (midA (rowsF.getD i ([], 0)))) ++ (List.range (m + 1)).flatMap (sigA (rowsF.getD i ([], 0)) (rowsF.getD j ([], 0)))).map sgD := by rw [range_flat, hsg, if_neg (by rw [h11]; exact Bool.false_ne_true), hl]; simp
                refine ws_nil ?_
                exact up_intro ⟨_, rfl, hl4⟩ (by walk_at "tg le")
            · skip
              rw [rw_nil] at h9
              have hsg : sigA (rowsF.getD i ([], 0)) (rowsF.getD j ([], 0)) m = [] := if_neg (by rw [h9]; exact Bool.false_ne_true)
              have hl4 : l = (((rowsF.take i).flatMap outA ++ (rowsF.take j).flatMap (midA (rowsF.getD i ([], 0)))) ++ (List.range (m + 1)).flatMap (sigA (rowsF.getD i ([], 0)) (rowsF.getD j ([], 0)))).map sgD := by rw [range_flat, hsg, List.append_nil, hl]
              refine ws_nil ?_
              exact up_intro ⟨_, rfl, hl4⟩ (by walk_at "tg le")
          case fin7 =>
            intro ρ hR
            obtain ⟨l, rfl, hl⟩ := hR
            have hl3 : l = ((rowsF.take i).flatMap outA ++ (rowsF.take (j + 1)).flatMap (midA (rowsF.getD i ([], 0)))).map sgD := by rw [take_getD ([], 0) hj', List.flatMap_append, ← List.append_assoc, hl]; simp [midA]
            exact up_intro ⟨_, rfl, hl3⟩ (by walk_at "tg le")
        case fin6 =>
          intro ρ hR
          obtain ⟨l, rfl, hl⟩ := hR
          rw [List.length_map, List.take_length] at hl
          have hl2 : l = ((rowsF.take (i + 1)).flatMap outA).map sgD := by rw [flat_next (x := ([], 0)) hi', hl]; rfl
          exact up_intro ⟨_, rfl, hl2⟩ (by walk_at "tg le")
      case fin5 =>
        intro ρ hR
        obtain ⟨l, rfl, hl⟩ := hR
        rw [List.length_map, List.take_length] at hl
        refine ws_freeze 4 rfl ?_
        refine ws_norm (ρ' := [_, _, _, _, _, _, _, _, _, _, _]) rfl ?_
        refine ws_one ?_
        refine ws_ret (P := fun o => o = .ml _) (eo_sorted hr rfl T.m_sorted (ea_cons (ee_var 4 rfl) ea_nil) (by rw [hl]; exact plains_map sg_plain _) (by rw [hl]; exact rows_map sg_alike fun _ => ⟨_, _, rfl⟩) (by rw [hl]; exact Nat.le_trans (depths_map sg_depth) (by decide))) ?_
        rintro _ rfl
        rw [hl]; exact hQ
theorem cal_all_signatures (T : Txt K mg) (C_ascending_rows : Cal P w K mg base 1 "ascending_rows" S_ascending_rows []) : Cal P w K mg base 2 "all_signatures" S_all_signatures [] :=
  cal_of (T.d_all_signatures.fn (P := P) (w := w) (base := base) (S := S_all_signatures) (k := 1) sc_all_signatures (fun ds Q h => by obtain ⟨rfl, _⟩ := h; rfl) fun f cdv A outer s H hr ds Q hS => body_all_signatures T C_ascending_rows hr ds Q hS) 0 (by decide) (fun G => .nil)
abbrev S_common_divisor : Spc := ⟨fun ds Q => ∃ a : Int, ∃ b : Int, ds = [.int a, .int b] ∧ (True) ∧ Q (.va (.int (Int.gcd a b))), fun _ _ _ kk_ ⟨a, b, e_, p_, q_⟩ => ⟨a, b, e_, p_, kk_ _ q_⟩⟩

theorem sc_common_divisor : FnScope ["a", "b"] ["a", "b"] (defScope s_common_divisor) := ⟨rfl, rfl, rfl, by decide +kernel, rfl, by decide +kernel, by decide +kernel⟩
theorem body_common_divisor (T : Txt K mg)  {f : Addr} {cdv : Value} {A : Around} {outer : List Env} {s : Shared} {H : Hp} (hr : Room (0) (A.deeper (envOfC "common_divisor" (defScope s_common_divisor) s.heap.objs.size f cdv))) (ds : List D) (Q : O → Prop) (hS : (S_common_divisor).S ds Q) :
    WSs (cxOf CX0 P w K mg base ["a", "b"] "common_divisor" (defScope s_common_divisor) f cdv A outer s H E0).nox noX (defBody s_common_divisor) (slots 2 ds) { nx := fun _ => Q (.va .non), rt := Q } := by
  have sc := sc_common_divisor
  obtain ⟨a, b, rfl, hp, hQ⟩ := hS
  refine ws_norm (ρ' := [_, _]) rfl ?_
  refine ws_cons ?_
  refine ws_setE 0 (ee_abs rfl T.m_abs (ea_cons (ee_var 0 rfl) ea_nil)) ?_ sc.nd
  refine ws_norm (ρ' := [_, _]) rfl ?_
  rw [natAbs_if]
  refine ws_cons ?_
  refine ws_setE 1 (ee_abs rfl T.m_abs (ea_cons (ee_var 1 rfl) ea_nil)) ?_ sc.nd
  refine ws_norm (ρ' := [_, _]) rfl ?_
  rw [natAbs_if]
  refine ws_cons ?_
  refine ws_while (fun m ρ => ∃ x y : Nat, ρ = [.va (.int x), .va (.int y)] ∧ Nat.gcd x y = Int.gcd a b ∧ m = y) (b.natAbs) ?start4 nox_own ?turn4
  case start4 =>
    exact Up.of ⟨a.natAbs, b.natAbs, rfl, rfl, rfl⟩
  case turn4 =>
    rintro m ρ ⟨x, y, rfl, hg, rfl⟩
    refine ⟨_, (et_gt (ee_var 1 rfl) ee_int), fun ht => ?_, fun hf => ?_⟩
    · skip
      have hy : 0 < (m : Int) := of_decide_eq_true ht
      refine ws_one ?_
      refine ws_par 0 1 (ea_cons (ee_var 1 rfl) (ea_cons (ee_mod (ee_var 0 rfl) (ee_var 1 rfl) (by walk_at "tg mod")) ea_nil)) ?_ sc.nd
      exact ⟨x % m, Nat.mod_lt _ (by omega), up_intro ⟨m, x % m, rfl, (gcd_turn x m).trans hg, rfl⟩ (by walk_at "tg le")⟩
    · skip
      have hy : ¬ 0 < (m : Int) := of_decide_eq_false hf
      obtain rfl : m = 0 := by omega
      rw [Nat.gcd_zero_right] at hg
      subst hg
      refine ws_one ?_
      refine ws_retE (ee_var 0 rfl) ?_
      walk_at "tg return"
theorem cal_common_divisor (T : Txt K mg)  : Cal P w K mg base 1 "common_divisor" S_common_divisor [] :=
  cal_of (T.d_common_divisor.fn (P := P) (w := w) (base := base) (S := S_common_divisor) (k := 0) sc_common_divisor (fun ds Q h => by obtain ⟨_, _, rfl, _⟩ := h; rfl) fun f cdv A outer s H hr ds Q hS => body_common_divisor T  hr ds Q hS) 0 (by decide) (fun G => .nil)
abbrev S_fraction : Spc := ⟨fun ds Q => ∃ n : Int, ∃ d : Int, ds = [.int n, .int d] ∧ (d ≠ 0 ∧ Sz 4999 d) ∧ Q (.va (rq (Rat.divInt n d))), fun _ _ _ kk_ ⟨n, d, e_, p_, q_⟩ => ⟨n, d, e_, p_, kk_ _ q_⟩⟩

theorem sc_fraction : FnScope ["n", "d", "g"] ["n", "d"] (defScope s_fraction) := ⟨rfl, rfl, rfl, by decide +kernel, rfl, by decide +kernel, by decide +kernel⟩
theorem body_fraction (T : Txt K mg) (C_common_divisor : Cal P w K mg base 1 "common_divisor" S_common_divisor []) {f : Addr} {cdv : Value} {A : Around} {outer : List Env} {s : Shared} {H : Hp} (hr : Room (1) (A.deeper (envOfC "fraction" (defScope s_fraction) s.heap.objs.size f cdv))) (ds : List D) (Q : O → Prop) (hS : (S_fraction).S ds Q) :
    WSs (cxOf CX0 P w K mg base ["n", "d", "g"] "fraction" (defScope s_fraction) f cdv A outer s H E0).nox noX (defBody s_fraction) (slots 3 ds) { nx := fun _ => Q (.va .non), rt := Q } := by
  have sc := sc_fraction
  obtain ⟨n, d, rfl, ⟨hd, hsz⟩, hQ⟩ := hS
  refine ws_norm (ρ' := [_, _, _]) rfl ?_
  rw [← rq_frac hd] at hQ
  have hg := fg_ne (n := n) hd
  have hgs := fg_sz (n := n) hd hsz
  refine ws_cons ?_
  refine ws_setE 2 (ee_cal (C_common_divisor) (hr.mono (by decide)) (ea_cons (ee_var 0 rfl) (ea_cons (ee_var 1 rfl) ea_nil)) (by exact ⟨_, _, rfl, trivial, rfl⟩)) ?_ sc.nd
  refine ws_norm (ρ' := [_, _, _]) rfl ?_
  refine ws_cons ?_
  refine ws_if (et_lt (ee_var 1 rfl) ee_int) (fun h3 => ?_) (fun h3 => ?_)
  · skip
    have hd0 : d < 0 := of_decide_eq_true h3
    have e : fg n d = -(Int.gcd n d : Int) := if_pos hd0
    refine ws_one ?_
    refine ws_setE 2 (ee_neg (ee_var 2 rfl)) ?_ sc.nd
    refine ws_norm (ρ' := [_, _, _]) rfl ?_
    refine ws_one ?_
    refine ws_retE (ee_tup (ea_cons (ee_fdiv (ee_var 0 rfl) (ee_var 2 rfl) (by first | (rw [← e]; exact hgs.div hg) | (rw [Int.zero_sub, ← e]; exact hgs.div hg))) (ea_cons (ee_fdiv (ee_var 1 rfl) (ee_var 2 rfl) (by first | (rw [← e]; exact hgs.div hg) | (rw [Int.zero_sub, ← e]; exact hgs.div hg))) ea_nil))) ?_
    first | (rw [← e]; exact hQ) | (rw [Int.zero_sub, ← e]; exact hQ)
  · skip
    have hd0 : ¬ d < 0 := of_decide_eq_false h3
    have e : fg n d = (Int.gcd n d : Int) := if_neg hd0
    refine ws_nil ?_
    refine ws_one ?_
    refine ws_retE (ee_tup (ea_cons (ee_fdiv (ee_var 0 rfl) (ee_var 2 rfl) (by first | (rw [← e]; exact hgs.div hg) | (rw [Int.zero_sub, ← e]; exact hgs.div hg))) (ea_cons (ee_fdiv (ee_var 1 rfl) (ee_var 2 rfl) (by first | (rw [← e]; exact hgs.div hg) | (rw [Int.zero_sub, ← e]; exact hgs.div hg))) ea_nil))) ?_
    first | (rw [← e]; exact hQ) | (rw [Int.zero_sub, ← e]; exact hQ)
theorem cal_fraction_1 (T : Txt K mg) (C_common_divisor : Cal P w K mg base 1 "common_divisor" S_common_divisor []) : Cal P w K mg base 2 "fraction" S_fraction [.int 1] :=
  cal_of (T.d_fraction.fn (P := P) (w := w) (base := base) (S := S_fraction) (k := 1) sc_fraction (fun ds Q h => by obtain ⟨_, _, rfl, _⟩ := h; rfl) fun f cdv A outer s H hr ds Q hS => body_fraction T C_common_divisor hr ds Q hS) 0 (by decide) (fun G => (.cons (Rep.int _) .nil))
theorem cal_fraction (T : Txt K mg) (C_common_divisor : Cal P w K mg base 1 "common_divisor" S_common_divisor []) : Cal P w K mg base 2 "fraction" S_fraction [] :=
  cal_of (T.d_fraction.fn (P := P) (w := w) (base := base) (S := S_fraction) (k := 1) sc_fraction (fun ds Q h => by obtain ⟨_, _, rfl, _⟩ := h; rfl) fun f cdv A outer s H hr ds Q hS => body_fraction T C_common_divisor hr ds Q hS) 1 (by decide) (fun G => .nil)
abbrev S_plus : Spc := ⟨fun ds Q => ∃ p : Rat, ∃ q : Rat, ds = [rq p, rq q] ∧ (Rz 2000 p ∧ Rz 2000 q) ∧ Q (.va (rq (p + q))), fun _ _ _ kk_ ⟨p, q, e_, p_, q_⟩ => ⟨p, q, e_, p_, kk_ _ q_⟩⟩

theorem sc_plus : FnScope ["f", "g"] ["f", "g"] (defScope s_plus) := ⟨rfl, rfl, rfl, by decide +kernel, rfl, by decide +kernel, by decide +kernel⟩
theorem body_plus (T : Txt K mg) (C_fraction : Cal P w K mg base 2 "fraction" S_fraction []) {f : Addr} {cdv : Value} {A : Around} {outer : List Env} {s : Shared} {H : Hp} (hr : Room (2) (A.deeper (envOfC "plus" (defScope s_plus) s.heap.objs.size f cdv))) (ds : List D) (Q : O → Prop) (hS : (S_plus).S ds Q) :
    WSs (cxOf CX0 P w K mg base ["f", "g"] "plus" (defScope s_plus) f cdv A outer s H E0).nox noX (defBody s_plus) (slots 2 ds) { nx := fun _ => Q (.va .non), rt := Q } := by
  have sc := sc_plus
  obtain ⟨p, q, rfl, ⟨hp, hq⟩, hQ⟩ := hS
  refine ws_norm (ρ' := [_, _]) rfl ?_
  have h1 := hp.num
  have h2 := hp.den
  have h3 := hq.num
  have h4 := hq.den
  refine ws_one ?_
  refine ws_retE (ee_cal (C_fraction) (hr.mono (by decide)) (ea_cons (ee_add (ee_mul (ee_ix (ee_var 0 rfl) ee_int rfl rfl) (ee_ix (ee_var 1 rfl) ee_int rfl rfl) (by exact Sz.mulE (by assumption) (by assumption))) (ee_mul (ee_ix (ee_var 1 rfl) ee_int rfl rfl) (ee_ix (ee_var 0 rfl) ee_int rfl rfl) (by exact Sz.mulE (by assumption) (by assumption)))) (ea_cons (ee_mul (ee_ix (ee_var 0 rfl) ee_int rfl rfl) (ee_ix (ee_var 1 rfl) ee_int rfl rfl) (by exact Sz.mulE (by assumption) (by assumption))) ea_nil)) (by exact ⟨_, _, rfl, ⟨mul_ne (rq_ne p) (rq_ne q), (h2.mul h4).mono (by decide)⟩, rfl⟩)) ?_
  rw [rat_add]; exact hQ
theorem cal_plus (T : Txt K mg) (C_fraction : Cal P w K mg base 2 "fraction" S_fraction []) : Cal P w K mg base 3 "plus" S_plus [] :=
  cal_of (T.d_plus.fn (P := P) (w := w) (base := base) (S := S_plus) (k := 2) sc_plus (fun ds Q h => by obtain ⟨_, _, rfl, _⟩ := h; rfl) fun f cdv A outer s H hr ds Q hS => body_plus T C_fraction hr ds Q hS) 0 (by decide) (fun G => .nil)
abbrev S_cost : Spc := ⟨fun ds Q => ∃ tu : List Int, ∃ co : List Int, ∃ r : Int, ∃ t : Int, ∃ g : Int, ds = [.tup [rwD tu, rwD co, .int r, .int t, .int g]] ∧ (OrdL tu ∧ OrdL co ∧ 0 ≤ r ∧ r ≤ 9 ∧ 0 ≤ t ∧ t ≤ 9 ∧ 0 ≤ g ∧ g ≤ 9) ∧ Q (.va (rq (accR fC (accR fT (Rat.divInt (r + t + 2 * g) 1) tu) co))), fun _ _ _ kk_ ⟨tu, co, r, t, g, e_, p_, q_⟩ => ⟨tu, co, r, t, g, e_, p_, kk_ _ q_⟩⟩

theorem sc_cost : FnScope ["signature", "turning", "corners", "rims", "twists", "rings", "result", "n"] ["signature"] (defScope s_cost) := ⟨rfl, rfl, rfl, by decide +kernel, rfl, by decide +kernel, by decide +kernel⟩
theorem body_cost (T : Txt K mg) (C_fraction_1 : Cal P w K mg base 2 "fraction" S_fraction [.int 1]) (C_fraction : Cal P w K mg base 2 "fraction" S_fraction []) (C_plus : Cal P w K mg base 3 "plus" S_plus []) {f : Addr} {cdv : Value} {A : Around} {outer : List Env} {s : Shared} {H : Hp} (hr : Room (3) (A.deeper (envOfC "cost" (defScope s_cost) s.heap.objs.size f cdv))) (ds : List D) (Q : O → Prop) (hS : (S_cost).S ds Q) :
    WSs (cxOf CX0 P w K mg base ["signature", "turning", "corners", "rims", "twists", "rings", "result", "n"] "cost" (defScope s_cost) f cdv A outer s H E0).nox noX (defBody s_cost) (slots 8 ds) { nx := fun _ => Q (.va .non), rt := Q } := by
  have sc := sc_cost
  obtain ⟨tu, co, r, t, g, rfl, ⟨hT, hC, r1, r2, t1, t2, g1, g2⟩, hQ⟩ := hS
  refine ws_norm (ρ' := [_, _, _, _, _, _, _, _]) rfl ?_
  have zr : Sz 4 r := Sz.nn (by omega) (by omega)
  have zt : Sz 4 t := Sz.nn (by omega) (by omega)
  have zg : Sz 4 g := Sz.nn (by omega) (by omega)
  have hq0 : Rz 8 (Rat.divInt (r + t + 2 * g) 1) := rz_divInt (by decide) (Sz.nn (by omega) (by omega)) (Sz.nn (by omega) (by omega))
  refine ws_cons ?_
  refine ws_unpack (ee_var 0 rfl) (at_tup (ats_cons (at_name 1 sc.nd) (ats_cons (at_name 2 sc.nd) (ats_cons (at_name 3 sc.nd) (ats_cons (at_name 4 sc.nd) (ats_cons (at_name 5 sc.nd) ats_nil)))))) ?_
  refine ws_norm (ρ' := [_, _, _, _, _, _, _, _]) rfl ?_
  refine ws_cons ?_
  refine ws_setE 6 (ee_cal (C_fraction_1) (hr.mono (by decide)) (ea_cons (ee_add (ee_add (ee_var 3 rfl) (ee_var 4 rfl)) (ee_mul ee_int (ee_var 5 rfl) (by walk_at "tg mul"))) ea_nil) (by exact ⟨_, _, rfl, ⟨by omega, by first | exact s1.mono (by decide) | exact ((sz_num (n := 2)).mul s1).mono (by decide) | exact (sz_num (n := 1)).mono (by decide)⟩, rfl⟩)) ?_ sc.nd
  refine ws_norm (ρ' := [_, _, _, _, _, _, _, _]) rfl ?_
  refine ws_cons ?_
  refine ws_forT (fun k ρ => ρ = [.va (.tup [rwD tu, rwD co, .int r, .int t, .int g]), .va (rwD tu), .va (rwD co), .va (.int r), .va (.int t), .va (.int g), .va (rq (accR fT (Rat.divInt (r + t + 2 * g) 1) (tu.take k))), .un]) (ee_var 1 rfl) ?start4 nox_own ?turn4 ?fin4
  case start4 =>
    exact up_intro rfl (by walk_at "tg le")
  case turn4 =>
    intro k d ρ hk hR
    subst hR
    obtain ⟨hk', rfl⟩ := map_getK (f := D.int) (l := tu) 0 hk
    have hn := hT.2 _ (TG.getD_mem (x := 0) hk')
    have hz := acc_rz hT (fun n h => fT_rz h) hq0 k (by omega)
    have h4 := hT.1
    have hz2 := fT_rz hn
    have s1 : Sz 8 (tu.getD k 0) := Sz.nn (by omega) (by omega)
    refine ⟨_, (at_name 7 sc.nd), ?_⟩
    refine ws_norm (ρ' := [_, _, _, _, _, _, _, _]) rfl ?_
    refine ws_one ?_
    refine ws_setE 6 (ee_cal (C_plus) (hr.mono (by decide)) (ea_cons (ee_var 6 rfl) (ea_cons (ee_cal (C_fraction) (hr.mono (by decide)) (ea_cons (ee_sub (ee_var 7 rfl) ee_int) (ea_cons (ee_var 7 rfl) ea_nil)) (by exact ⟨_, _, rfl, ⟨by omega, by first | exact s1.mono (by decide) | exact ((sz_num (n := 2)).mul s1).mono (by decide) | exact (sz_num (n := 1)).mono (by decide)⟩, rfl⟩)) ea_nil)) (by exact ⟨_, _, rfl, ⟨hz.mono (by omega), hz2.mono (by decide)⟩, rfl⟩)) ?_ sc.nd
    rw [show accR fT (Rat.divInt (r + t + 2 * g) 1) (tu.take k) + Rat.divInt (tu.getD k 0 - 1) (tu.getD k 0) = accR fT (Rat.divInt (r + t + 2 * g) 1) (tu.take (k + 1)) from (accR_next fT _ hk').symm]
    exact up_intro rfl (by walk_at "tg le")
  case fin4 =>
    intro ρ hR
    subst hR
    rw [List.length_map, List.take_length]
    refine ws_cons ?_
    refine ws_forT (fun k ρ => ρ = [.va (.tup [rwD tu, rwD co, .int r, .int t, .int g]), .va (rwD tu), .va (rwD co), .va (.int r), .va (.int t), .va (.int g), .va (rq (accR fC (accR fT (Rat.divInt (r + t + 2 * g) 1) tu) (co.take k))), .un]) (ee_var 2 rfl) ?start6 nox_own ?turn6 ?fin6
    case start6 =>
      exact up_intro rfl (by walk_at "tg le")
    case turn6 =>
      intro k d ρ hk hR
      subst hR
      obtain ⟨hk', rfl⟩ := map_getK (f := D.int) (l := co) 0 hk
      have hn := hC.2 _ (TG.getD_mem (x := 0) hk')
      have hz := acc_rz hC (fun n h => fC_rz h) (acc_rz hT (fun n h => fT_rz h) hq0 tu.length (Nat.le_refl _)) k (by omega)
      rw [List.take_length] at hz
      have h4 := hT.1
      have h5 := hC.1
      have hz2 := fC_rz hn
      have s1 : Sz 8 (co.getD k 0) := Sz.nn (by omega) (by omega)
      refine ⟨_, (at_name 7 sc.nd), ?_⟩
      refine ws_norm (ρ' := [_, _, _, _, _, _, _, _]) rfl ?_
      refine ws_one ?_
      refine ws_setE 6 (ee_cal (C_plus) (hr.mono (by decide)) (ea_cons (ee_var 6 rfl) (ea_cons (ee_cal (C_fraction) (hr.mono (by decide)) (ea_cons (ee_sub (ee_var 7 rfl) ee_int) (ea_cons (ee_mul ee_int (ee_var 7 rfl) (by walk_at "tg mul")) ea_nil)) (by exact ⟨_, _, rfl, ⟨by omega, by first | exact s1.mono (by decide) | exact ((sz_num (n := 2)).mul s1).mono (by decide) | exact (sz_num (n := 1)).mono (by decide)⟩, rfl⟩)) ea_nil)) (by exact ⟨_, _, rfl, ⟨hz.mono (by omega), hz2.mono (by decide)⟩, rfl⟩)) ?_ sc.nd
      rw [show accR fC (accR fT (Rat.divInt (r + t + 2 * g) 1) tu) (co.take k) + Rat.divInt (co.getD k 0 - 1) (2 * co.getD k 0) = accR fC (accR fT (Rat.divInt (r + t + 2 * g) 1) tu) (co.take (k + 1)) from (accR_next fC _ hk').symm]
      exact up_intro rfl (by walk_at "tg le")
    case fin6 =>
      intro ρ hR
      subst hR
      rw [List.length_map, List.take_length]
      refine ws_one ?_
      refine ws_retE (ee_var 6 rfl) ?_
      walk_at "tg return"
theorem cal_cost (T : Txt K mg) (C_fraction_1 : Cal P w K mg base 2 "fraction" S_fraction [.int 1]) (C_fraction : Cal P w K mg base 2 "fraction" S_fraction []) (C_plus : Cal P w K mg base 3 "plus" S_plus []) : Cal P w K mg base 4 "cost" S_cost [] :=
  cal_of (T.d_cost.fn (P := P) (w := w) (base := base) (S := S_cost) (k := 3) sc_cost (fun ds Q h => by obtain ⟨_, _, _, _, _, rfl, _⟩ := h; rfl) fun f cdv A outer s H hr ds Q hS => body_cost T C_fraction_1 C_fraction C_plus hr ds Q hS) 0 (by decide) (fun G => .nil)
theorem cost_same (x : Int) (tu co : List Int) : accR fC (accR fT (Rat.divInt x 1) tu) co = accR fC (accR fT 0 tu) co + (x : Rat) := by
  rw [accR_shift fC co, accR_shift fT tu, accR_shift fC co (accR fT 0 tu), show Rat.divInt x 1 = (x : Rat) from rat_eq_div (by decide) (by simp)]
  grind
theorem price_rz {tu co : List Int} (hT : OrdL tu) (hC : OrdL co) : Rz 100 (accR fC (accR fT 0 tu) co) := by
  have h := acc_rz hC (fun n h => fC_rz h) (acc_rz hT (fun n h => fT_rz h) rz0 tu.length (Nat.le_refl _)) co.length (Nat.le_refl _)
  rw [List.take_length, List.take_length] at h
  have h1 := hT.1
  have h2 := hC.1
  exact h.mono (by omega)
theorem cut_one {ns : List Int} {x : Int} (h : 0 ≤ x ∧ x ≤ 4) (hn : ns.length = 14) : ∃ ys : List Int, TG.cutD (ns.map D.int) none (some x) = ys.map .int ∧ ys.length ≤ 4 := by
  obtain ⟨k, rfl⟩ : ∃ k : Nat, x = (k : Int) := ⟨x.toNat, by omega⟩
  refine cut_len ?_
  rw [cut_lo k rfl (by rw [List.length_map]; omega), List.length_take, List.length_map]
  omega
theorem cut_two {ns : List Int} {x : Int} (h : 0 ≤ x ∧ x ≤ 4) (hn : ns.length = 14) : ∃ ys : List Int, TG.cutD (ns.map D.int) (some 5) (some (5 + x)) = ys.map .int ∧ ys.length ≤ 4 := by
  obtain ⟨k, rfl⟩ : ∃ k : Nat, x = (k : Int) := ⟨x.toNat, by omega⟩
  refine cut_len ?_
  unfold TG.cutD
  rw [show (5 : Int) = ((5 : Nat) : Int) from rfl, show ((5 : Nat) : Int) + (k : Int) = ((5 + k : Nat) : Int) by omega, HT.sIx_nat, HT.sIx_nat, List.length_take, List.length_drop, List.length_map]
  omega
theorem same_rq (q : Rat) : (rq q).plain = true ∧ (rq q).depth ≤ 8 := ⟨rfl, Nat.le_of_ble_eq_true rfl⟩
theorem sc_law : FnScope ["script", "k", "numbers", "turning", "n", "corners", "rims", "twists", "rings", "due", "told"] ["script"] (defScope s_law) := ⟨rfl, rfl, rfl, by decide +kernel, rfl, by decide +kernel, by decide +kernel⟩
theorem body_law (T : Txt K mg) (C__law_add : Cal P w K mg base 3 "_law_add" S__law_add []) (C__law_all : Cal P w K mg base 2 "_law_all" S__law_all []) (C__law_cell : Cal P w K mg base 1 "_law_cell" S__law_cell []) (C__law_numbers : Cal P w K mg base 1 "_law_numbers" S__law_numbers []) (C__law_price : Cal P w K mg base 4 "_law_price" S__law_price []) (C__law_same : Cal P w K mg base 9 "_law_same" S8 []) (C_all_signatures : Cal P w K mg base 2 "all_signatures" S_all_signatures []) (C_cost : Cal P w K mg base 4 "cost" S_cost []) {f : Addr} {cdv : Value} {A : Around} {outer : List Env} {s : Shared} {H : Hp} (hr : Room (9) (A.deeper (envOfC "law" (defScope s_law) s.heap.objs.size f cdv))) (ds : List D) (Q : O → Prop) (hS : (lawS).S ds Q) :
    WSs (cxOf CX0 P w K mg base ["script", "k", "numbers", "turning", "n", "corners", "rims", "twists", "rings", "due", "told"] "law" (defScope s_law) f cdv A outer s H E0).nox noX (defBody s_law) (slots 11 ds) { nx := fun _ => Q (.va .non), rt := Q } := by
  have sc := sc_law
  obtain ⟨ns, rfl, hns, hQ⟩ := hS
  refine ws_norm (ρ' := [_, _, _, _, _, _, _, _, _, _, _]) rfl ?_
  refine ws_cons ?_
  refine ws_forR (fun k ρ => ρ = [.va (.cst (ns.map .int)), .un, .un, .un, .un, .un, .un, .un, .un, .un, .un]) T.m_range (ea_cons ee_int ea_nil) ?start2 nox_own ?turn2 ?fin2 (by decide)
  case start2 =>
    exact Up.of rfl
  case turn2 =>
    intro k ρ hk hR
    subst hR
    refine ⟨_, (at_name 1 sc.nd), ?_⟩
    refine ws_norm (ρ' := [_, _, _, _, _, _, _, _, _, _, _]) rfl ?_
    refine ws_cons ?_
    refine ws_setM 2 (eo_cal (C__law_numbers) (hr.mono (by decide)) (ea_cons (ee_add (ee_cal (C__law_cell) (hr.mono (by decide)) (ea_cons (ee_var 0 rfl) (ea_cons (ee_var 1 rfl) ea_nil)) (by exact ⟨_, _, rfl, (by walk_at "tg pre"), rfl⟩)) (ee_var 1 rfl)) (ea_cons ee_int ea_nil)) (by exact ⟨_, 14, rfl, by decide, rfl⟩)) ?_ sc.nd
    refine ws_norm (ρ' := [_, _, _, _, _, _, _, _, _, _, _]) rfl ?_
    refine ws_freeze 2 rfl ?_
    refine ws_norm (ρ' := [_, _, _, _, _, _, _, _, _, _, _]) rfl ?_
    refine ws_abs 2 (fun d => ∃ xs : List Int, d = .lst (xs.map .int) ∧ xs.length = 14 ∧ ∀ x ∈ xs, 0 ≤ x ∧ x < 1000) rfl (⟨_, rfl, nums_len _ _, nums_range _ _⟩) ?_
    rintro _ ⟨xs, rfl, hxl, hxs⟩
    obtain ⟨ys, hcy, hyl⟩ := cut_one (ns := xs) (x := xs.getD 10 0 % 5) (by omega) hxl
    obtain ⟨ws, hcw, hwl⟩ := cut_two (ns := xs) (x := xs.getD 11 0 % 5) (by omega) hxl
    obtain ⟨tu, hTs, hT⟩ := ord_sorted (ord_of hyl)
    obtain ⟨co, hCs, hC⟩ := ord_sorted (ord_of hwl)
    refine ws_norm (ρ' := [_, _, _, _, _, _, _, _, _, _, _]) rfl ?_
    refine ws_cons ?_
    refine ws_setE 3 (ee_tuple rfl T.m_tuple (ea_cons (ee_lst (eo_sorted hr rfl T.m_sorted (ea_cons (ee_lst (eo_lc (f := iF ordN) [("n", 4)] (ei_lst (ee_lst (eo_slL (ee_var 2 rfl) ep_none (ep_some (ee_mod (ee_ix (ee_var 2 rfl) ee_int rfl (by exact atI_ints (ns := xs) (k := 10) (by rw [hxl]; decide))) ee_int (by decide))) (by exact hcy)))) sc.nd (blkOk_by (N := ["script", "k", "numbers", "turning", "n", "corners", "rims", "twists", "rings", "due", "told"]) (sc := defScope s_law) (by first | decide +kernel | kernel_rfl)) (by rw [List.length_map]; exact Nat.le_trans hyl (by decide)) (by intro k2 d hk2; obtain ⟨hj', rfl⟩ := map_getK (f := D.int) (l := ys) 0 hk2; exact ⟨_, _, fun _ _ _ _ _ => (ab_name 4 (by decide) sc.nd), fun _ _ _ _ _ => ets_nil, fun ht => ⟨_, rfl, fun _ _ _ _ _ => (ee_add ee_int (ee_mod (ee_var 4 rfl) ee_int (by decide)))⟩, fun hf => absurd hf (by decide)⟩))) ea_nil) (by rw [pick_ints]; exact plains_map (fun _ => rfl) _) (by rw [pick_ints]; exact rows_mapI fun x => ⟨_, rfl⟩) (by rw [pick_ints]; exact Nat.le_trans (depths_map (n := 0) fun _ => Nat.le_refl _) (by decide)))) ea_nil) rfl) ?_ sc.nd
    refine ws_norm (ρ' := [_, _, _, _, _, _, _, _, _, _, _]) rfl ?_
    refine ws_abs 3 (fun d => d = rwD tu) rfl (by rw [pick_ints, hTs]) ?_
    rintro _ rfl
    refine ws_norm (ρ' := [_, _, _, _, _, _, _, _, _, _, _]) rfl ?_
    refine ws_cons ?_
    refine ws_setE 5 (ee_tuple rfl T.m_tuple (ea_cons (ee_lst (eo_sorted hr rfl T.m_sorted (ea_cons (ee_lst (eo_lc (f := iF ordN) [("n", 4)] (ei_lst (ee_lst (eo_slL (ee_var 2 rfl) (ep_some ee_int) (ep_some (ee_add ee_int (ee_mod (ee_ix (ee_var 2 rfl) ee_int rfl (by exact atI_ints (ns := xs) (k := 11) (by rw [hxl]; decide))) ee_int (by decide)))) (by exact hcw)))) sc.nd (blkOk_by (N := ["script", "k", "numbers", "turning", "n", "corners", "rims", "twists", "rings", "due", "told"]) (sc := defScope s_law) (by first | decide +kernel | kernel_rfl)) (by rw [List.length_map]; exact Nat.le_trans hwl (by decide)) (by intro k2 d hk2; obtain ⟨hj', rfl⟩ := map_getK (f := D.int) (l := ws) 0 hk2; exact ⟨_, _, fun _ _ _ _ _ => (ab_name 4 (by decide) sc.nd), fun _ _ _ _ _ => ets_nil, fun ht => ⟨_, rfl, fun _ _ _ _ _ => (ee_add ee_int (ee_mod (ee_var 4 rfl) ee_int (by decide)))⟩, fun hf => absurd hf (by decide)⟩))) ea_nil) (by rw [pick_ints]; exact plains_map (fun _ => rfl) _) (by rw [pick_ints]; exact rows_mapI fun x => ⟨_, rfl⟩) (by rw [pick_ints]; exact Nat.le_trans (depths_map (n := 0) fun _ => Nat.le_refl _) (by decide)))) ea_nil) rfl) ?_ sc.nd
    refine ws_norm (ρ' := [_, _, _, _, _, _, _, _, _, _, _]) rfl ?_
    refine ws_abs 5 (fun d => d = rwD co) rfl (by rw [pick_ints, hCs]) ?_
    rintro _ rfl
    refine ws_norm (ρ' := [_, _, _, _, _, _, _, _, _, _, _]) rfl ?_
    refine ws_cons ?_
    refine ws_setE 6 (ee_mod (ee_ix (ee_var 2 rfl) ee_int rfl (by exact atI_ints (ns := xs) (k := 12) (by rw [hxl]; decide))) ee_int (by decide)) ?_ sc.nd
    refine ws_norm (ρ' := [_, _, _, _, _, _, _, _, _, _, _]) rfl ?_
    refine ws_cons ?_
    refine ws_setE 7 (ee_mod (ee_ix (ee_var 2 rfl) ee_int rfl (by exact atI_ints (ns := xs) (k := 13) (by rw [hxl]; decide))) ee_int (by decide)) ?_ sc.nd
    refine ws_norm (ρ' := [_, _, _, _, _, _, _, _, _, _, _]) rfl ?_
    refine ws_cons ?_
    refine ws_setE 8 (ee_mod (ee_div (ee_ix (ee_var 2 rfl) ee_int rfl (by exact atI_ints (ns := xs) (k := 12) (by rw [hxl]; decide))) ee_int (by exact ⟨by decide, by decide⟩)) ee_int (by decide)) ?_ sc.nd
    refine ws_norm (ρ' := [_, _, _, _, _, _, _, _, _, _, _]) rfl ?_
    refine ws_cons ?_
    refine ws_setE 9 (ee_cal (C__law_add) (hr.mono (by decide)) (ea_cons (ee_cal (C__law_price) (hr.mono (by decide)) (ea_cons (ee_var 3 rfl) (ea_cons (ee_var 5 rfl) ea_nil)) (by exact ⟨_, _, rfl, ⟨hT, hC⟩, rfl⟩)) (ea_cons (ee_tup (ea_cons (ee_add (ee_add (ee_var 6 rfl) (ee_var 7 rfl)) (ee_mul ee_int (ee_var 8 rfl) (by exact Sz.mulE (m := 2) (n := 4) (sz_lit rfl) (Sz.nn (by omega) (by omega))))) (ea_cons ee_int ea_nil))) ea_nil)) (by exact ⟨_, ((((xs.getD 12 0 % 10) + (xs.getD 13 0 % 10) + 2 * (xs.getD 12 0 / 10 % 10) : Int)) : Rat), rfl, ⟨(price_rz hT hC).mono (by decide), rz_int (Sz.nn (n := 6) (by omega) (by omega)) |>.mono (by decide)⟩, rfl⟩)) ?_ sc.nd
    refine ws_norm (ρ' := [_, _, _, _, _, _, _, _, _, _, _]) rfl ?_
    refine ws_one ?_
    refine ws_if (et_not (et_val (ee_cal (C__law_same) (hr.mono (by decide)) (ea_cons (ee_cal (C_cost) (hr.mono (by decide)) (ea_cons (ee_tup (ea_cons (ee_var 3 rfl) (ea_cons (ee_var 5 rfl) (ea_cons (ee_var 6 rfl) (ea_cons (ee_var 7 rfl) (ea_cons (ee_var 8 rfl) ea_nil)))))) ea_nil) (by exact ⟨_, _, _, _, _, rfl, ⟨hT, hC, by omega, by omega, by omega, by omega, by omega, by omega⟩, rfl⟩)) (ea_cons (ee_var 9 rfl) ea_nil)) (by exact ⟨rq (accR fC (accR fT 0 tu) co + (((xs.getD 12 0 % 10) + (xs.getD 13 0 % 10) + 2 * (xs.getD 12 0 / 10 % 10) : Int) : Rat)), by rw [cost_same]; rfl, same_rq _, rfl⟩)))) (fun h10 => ?_) (fun h10 => ?_)
    · skip
      exact absurd h10 (by decide)
    · skip
      refine ws_nil ?_
      exact up_intro rfl (by walk_at "tg le")
  case fin2 =>
    intro ρ hR
    subst hR
    refine ws_cons ?_
    refine ws_setM 9 (eo_cal0 (C__law_all) (hr.mono (by decide)) (by exact ⟨rfl, (by walk_at "tg pre"), rfl⟩)) ?_ sc.nd
    refine ws_norm (ρ' := [_, _, _, _, _, _, _, _, _, _, _]) rfl ?_
    refine ws_freeze 9 rfl ?_
    refine ws_norm (ρ' := [_, _, _, _, _, _, _, _, _, _, _]) rfl ?_
    refine ws_cons ?_
    refine ws_setM 10 (eo_cal0 (C_all_signatures) (hr.mono (by decide)) (by exact ⟨rfl, (by walk_at "tg pre"), rfl⟩)) ?_ sc.nd
    refine ws_norm (ρ' := [_, _, _, _, _, _, _, _, _, _, _]) rfl ?_
    refine ws_cons ?_
    refine ws_if (et_bor 10 rfl (EW.et (ew_or (et_neI hr.units (ee_len rfl T.m_len (ea_cons (ee_var 9 rfl) ea_nil) rfl) ee_int) (fun hv => (ew_or1 (et_not (et_val (ee_cal (C__law_same) (hr.mono (by decide)) (ea_cons (ee_var 10 rfl) (ea_cons (ee_var 9 rfl) ea_nil)) (by exact ⟨.lst (srt (foundB.map sgD)), by rw [found_same]; rfl, due_same, rfl⟩))))))))) (fun h14 => ?_) (fun h14 => ?_)
    · skip
      rw [srt_len, List.length_map, found_len] at h14
      exact absurd h14 (by decide)
    · skip
      refine ws_nil ?_
      refine ws_cons ?_
      refine ws_clear 10 rfl ?_
      refine ws_norm (ρ' := [_, _, _, _, _, _, _, _, _, _, _]) rfl ?_
      refine ws_one ?_
      refine ws_retE (ee_cal (C__law_same) (hr.mono (by decide)) (ea_cons (ee_lst (eo_cal0 (C_all_signatures) (hr.mono (by decide)) (by exact ⟨rfl, (by walk_at "tg pre"), rfl⟩))) (ea_cons (ee_var 9 rfl) ea_nil)) (by exact ⟨.lst (srt (foundB.map sgD)), by rw [found_same]; rfl, due_same, rfl⟩)) ?_
      walk_at "tg return"
theorem all_mk {l : PySem.W.OpenLaw} {w : World} {K : PySem.W.Frag} {h : Heap} {mg : Str → Option Value} {fa : Addr} (X : K.In h) (G : h.Ns mainGlobals mg) (hfa : mg "law" = some (.ref fa))
    {k_UNIT : Tok}
    (aK_UNIT : PySem.W.nsIn K mainGlobals "UNIT" = some (some (.int 120 k_UNIT)))
    {f0 : Addr} {od0 an0 : Option Addr} {sl0 : Array (Option Value)} {oc0 kV0 dc0 pm0 cd0 ct0 : Value}
    (a0 : PySem.W.nsIn K mainGlobals "common_divisor" = some (some (.ref f0)))
    (l0 : K.lookup f0 = some ⟨oc0, od0, .func (PySem.W.fnOf "common_divisor" "common_divisor" (defArgs s_common_divisor) (defBody s_common_divisor) (defScope s_common_divisor) .none kV0 dc0 pm0 an0 cd0 ct0), sl0⟩)
    (c0 : PySem.W.codeIn K cd0 "common_divisor" = true) (k0 : PySem.W.keepIn K (.ref f0) = true)
    {f1 : Addr} {od1 an1 : Option Addr} {sl1 : Array (Option Value)} {oc1 kV1 dc1 pm1 cd1 ct1 : Value}
    (a1 : PySem.W.nsIn K mainGlobals "fraction" = some (some (.ref f1)))
    {dV1 : Addr} {tc1 : Value} {td1 : Option Addr} {tn1 : Nat} {ts1 : Array (Option Value)} {tk1 : Nat}
    (l1 : K.lookup f1 = some ⟨oc1, od1, .func (PySem.W.fnOf "fraction" "fraction" (defArgs s_fraction) (defBody s_fraction) (defScope s_fraction) (.ref dV1) kV1 dc1 pm1 an1 cd1 ct1), sl1⟩)
    (t1 : K.lookup dV1 = some ⟨tc1, td1, .seq (List.toArray [.int 1 tk1]) tn1, ts1⟩)
    (c1 : PySem.W.codeIn K cd1 "fraction" = true) (k1 : PySem.W.keepIn K (.ref f1) = true)
    {f2 : Addr} {od2 an2 : Option Addr} {sl2 : Array (Option Value)} {oc2 kV2 dc2 pm2 cd2 ct2 : Value}
    (a2 : PySem.W.nsIn K mainGlobals "plus" = some (some (.ref f2)))
    (l2 : K.lookup f2 = some ⟨oc2, od2, .func (PySem.W.fnOf "plus" "plus" (defArgs s_plus) (defBody s_plus) (defScope s_plus) .none kV2 dc2 pm2 an2 cd2 ct2), sl2⟩)
    (c2 : PySem.W.codeIn K cd2 "plus" = true) (k2 : PySem.W.keepIn K (.ref f2) = true)
    {f3 : Addr} {od3 an3 : Option Addr} {sl3 : Array (Option Value)} {oc3 kV3 dc3 pm3 cd3 ct3 : Value}
    (a3 : PySem.W.nsIn K mainGlobals "cost" = some (some (.ref f3)))
    (l3 : K.lookup f3 = some ⟨oc3, od3, .func (PySem.W.fnOf "cost" "cost" (defArgs s_cost) (defBody s_cost) (defScope s_cost) .none kV3 dc3 pm3 an3 cd3 ct3), sl3⟩)
    (c3 : PySem.W.codeIn K cd3 "cost" = true) (k3 : PySem.W.keepIn K (.ref f3) = true)
    {f4 : Addr} {od4 an4 : Option Addr} {sl4 : Array (Option Value)} {oc4 kV4 dc4 pm4 cd4 ct4 : Value}
    (a4 : PySem.W.nsIn K mainGlobals "ascending_rows" = some (some (.ref f4)))
    (l4 : K.lookup f4 = some ⟨oc4, od4, .func (PySem.W.fnOf "ascending_rows" "ascending_rows" (defArgs s_ascending_rows) (defBody s_ascending_rows) (defScope s_ascending_rows) .none kV4 dc4 pm4 an4 cd4 ct4), sl4⟩)
    (c4 : PySem.W.codeIn K cd4 "ascending_rows" = true) (k4 : PySem.W.keepIn K (.ref f4) = true)
    {f5 : Addr} {od5 an5 : Option Addr} {sl5 : Array (Option Value)} {oc5 kV5 dc5 pm5 cd5 ct5 : Value}
    (a5 : PySem.W.nsIn K mainGlobals "all_signatures" = some (some (.ref f5)))
    (l5 : K.lookup f5 = some ⟨oc5, od5, .func (PySem.W.fnOf "all_signatures" "all_signatures" (defArgs s_all_signatures) (defBody s_all_signatures) (defScope s_all_signatures) .none kV5 dc5 pm5 an5 cd5 ct5), sl5⟩)
    (c5 : PySem.W.codeIn K cd5 "all_signatures" = true) (k5 : PySem.W.keepIn K (.ref f5) = true)
    {f6 : Addr} {od6 an6 : Option Addr} {sl6 : Array (Option Value)} {oc6 kV6 dc6 pm6 cd6 ct6 : Value}
    (a6 : PySem.W.nsIn K mainGlobals "_law_cell" = some (some (.ref f6)))
    (l6 : K.lookup f6 = some ⟨oc6, od6, .func (PySem.W.fnOf "_law_cell" "_law_cell" (defArgs s__law_cell) (defBody s__law_cell) (defScope s__law_cell) .none kV6 dc6 pm6 an6 cd6 ct6), sl6⟩)
    (c6 : PySem.W.codeIn K cd6 "_law_cell" = true) (k6 : PySem.W.keepIn K (.ref f6) = true)
    {f7 : Addr} {od7 an7 : Option Addr} {sl7 : Array (Option Value)} {oc7 kV7 dc7 pm7 cd7 ct7 : Value}
    (a7 : PySem.W.nsIn K mainGlobals "_law_numbers" = some (some (.ref f7)))
    (l7 : K.lookup f7 = some ⟨oc7, od7, .func (PySem.W.fnOf "_law_numbers" "_law_numbers" (defArgs s__law_numbers) (defBody s__law_numbers) (defScope s__law_numbers) .none kV7 dc7 pm7 an7 cd7 ct7), sl7⟩)
    (c7 : PySem.W.codeIn K cd7 "_law_numbers" = true) (k7 : PySem.W.keepIn K (.ref f7) = true)
    {f8 : Addr} {od8 an8 : Option Addr} {sl8 : Array (Option Value)} {oc8 kV8 dc8 pm8 cd8 ct8 : Value}
    (a8 : PySem.W.nsIn K mainGlobals "_law_same" = some (some (.ref f8)))
    (l8 : K.lookup f8 = some ⟨oc8, od8, .func (PySem.W.fnOf "_law_same" "_law_same" (defArgs s__law_same) (defBody s__law_same) (defScope s__law_same) .none kV8 dc8 pm8 an8 cd8 ct8), sl8⟩)
    (c8 : PySem.W.codeIn K cd8 "_law_same" = true) (k8 : PySem.W.keepIn K (.ref f8) = true)
    {f9 : Addr} {od9 an9 : Option Addr} {sl9 : Array (Option Value)} {oc9 kV9 dc9 pm9 cd9 ct9 : Value}
    (a9 : PySem.W.nsIn K mainGlobals "_law_gcd" = some (some (.ref f9)))
    (l9 : K.lookup f9 = some ⟨oc9, od9, .func (PySem.W.fnOf "_law_gcd" "_law_gcd" (defArgs s__law_gcd) (defBody s__law_gcd) (defScope s__law_gcd) .none kV9 dc9 pm9 an9 cd9 ct9), sl9⟩)
    (c9 : PySem.W.codeIn K cd9 "_law_gcd" = true) (k9 : PySem.W.keepIn K (.ref f9) = true)
    {f10 : Addr} {od10 an10 : Option Addr} {sl10 : Array (Option Value)} {oc10 kV10 dc10 pm10 cd10 ct10 : Value}
    (a10 : PySem.W.nsIn K mainGlobals "_law_frac" = some (some (.ref f10)))
    (l10 : K.lookup f10 = some ⟨oc10, od10, .func (PySem.W.fnOf "_law_frac" "_law_frac" (defArgs s__law_frac) (defBody s__law_frac) (defScope s__law_frac) .none kV10 dc10 pm10 an10 cd10 ct10), sl10⟩)
    (c10 : PySem.W.codeIn K cd10 "_law_frac" = true) (k10 : PySem.W.keepIn K (.ref f10) = true)
    {f11 : Addr} {od11 an11 : Option Addr} {sl11 : Array (Option Value)} {oc11 kV11 dc11 pm11 cd11 ct11 : Value}
    (a11 : PySem.W.nsIn K mainGlobals "_law_add" = some (some (.ref f11)))
    (l11 : K.lookup f11 = some ⟨oc11, od11, .func (PySem.W.fnOf "_law_add" "_law_add" (defArgs s__law_add) (defBody s__law_add) (defScope s__law_add) .none kV11 dc11 pm11 an11 cd11 ct11), sl11⟩)
    (c11 : PySem.W.codeIn K cd11 "_law_add" = true) (k11 : PySem.W.keepIn K (.ref f11) = true)
    {f12 : Addr} {od12 an12 : Option Addr} {sl12 : Array (Option Value)} {oc12 kV12 dc12 pm12 cd12 ct12 : Value}
    (a12 : PySem.W.nsIn K mainGlobals "_law_price" = some (some (.ref f12)))
    (l12 : K.lookup f12 = some ⟨oc12, od12, .func (PySem.W.fnOf "_law_price" "_law_price" (defArgs s__law_price) (defBody s__law_price) (defScope s__law_price) .none kV12 dc12 pm12 an12 cd12 ct12), sl12⟩)
    (c12 : PySem.W.codeIn K cd12 "_law_price" = true) (k12 : PySem.W.keepIn K (.ref f12) = true)
    {f13 : Addr} {od13 an13 : Option Addr} {sl13 : Array (Option Value)} {oc13 kV13 dc13 pm13 cd13 ct13 : Value}
    (a13 : PySem.W.nsIn K mainGlobals "_law_rows" = some (some (.ref f13)))
    (l13 : K.lookup f13 = some ⟨oc13, od13, .func (PySem.W.fnOf "_law_rows" "_law_rows" (defArgs s__law_rows) (defBody s__law_rows) (defScope s__law_rows) .none kV13 dc13 pm13 an13 cd13 ct13), sl13⟩)
    (c13 : PySem.W.codeIn K cd13 "_law_rows" = true) (k13 : PySem.W.keepIn K (.ref f13) = true)
    {f14 : Addr} {od14 an14 : Option Addr} {sl14 : Array (Option Value)} {oc14 kV14 dc14 pm14 cd14 ct14 : Value}
    (a14 : PySem.W.nsIn K mainGlobals "_law_all" = some (some (.ref f14)))
    (l14 : K.lookup f14 = some ⟨oc14, od14, .func (PySem.W.fnOf "_law_all" "_law_all" (defArgs s__law_all) (defBody s__law_all) (defScope s__law_all) .none kV14 dc14 pm14 an14 cd14 ct14), sl14⟩)
    (c14 : PySem.W.codeIn K cd14 "_law_all" = true) (k14 : PySem.W.keepIn K (.ref f14) = true)
    {f15 : Addr} {od15 an15 : Option Addr} {sl15 : Array (Option Value)} {oc15 kV15 dc15 pm15 cd15 ct15 : Value}
    (a15 : PySem.W.nsIn K mainGlobals "law" = some (some (.ref f15)))
    (l15 : K.lookup f15 = some ⟨oc15, od15, .func (PySem.W.fnOf "law" "law" (defArgs s_law) (defBody s_law) (defScope s_law) .none kV15 dc15 pm15 an15 cd15 ct15), sl15⟩)
    (c15 : PySem.W.codeIn K cd15 "law" = true) (k15 : PySem.W.keepIn K (.ref f15) = true)
    (z0 : PySem.W.nsIn K mainGlobals "abs" = some none)
    (z1 : PySem.W.nsIn K mainGlobals "bool" = some none)
    (z2 : PySem.W.nsIn K mainGlobals "int" = some none)
    (z3 : PySem.W.nsIn K mainGlobals "isinstance" = some none)
    (z4 : PySem.W.nsIn K mainGlobals "len" = some none)
    (z5 : PySem.W.nsIn K mainGlobals "list" = some none)
    (z6 : PySem.W.nsIn K mainGlobals "range" = some none)
    (z7 : PySem.W.nsIn K mainGlobals "sorted" = some none)
    (z8 : PySem.W.nsIn K mainGlobals "str" = some none)
    (z9 : PySem.W.nsIn K mainGlobals "sum" = some none)
    (z10 : PySem.W.nsIn K mainGlobals "tuple" = some none)
    : ∃ fd : FuncData, (∀ (s : Shared) (v : Value), BindsTo s fd ⟨[v], []⟩ [("script", v)]) ∧ ∀ base : Heap, K.In base → base.Ns mainGlobals mg → FnOk l.prog w K mg base CX0 10 fa fd ["script"] (spOf K lawS) := by
  have T : Txt K mg := {
    d_common_divisor := defT_mk (PySem.W.mg_of X G a0) l0 c0 k0 (fun _ _ _ _ _ _ us hl => match us, hl with | [_, _], _ => rfl)
    d_fraction := defT_mkD (PySem.W.mg_of X G a1) l1 c1 k1 (by simp) ⟨_, _, _, _, rfl, t1, rfl, (.cons ⟨_, rfl⟩ .nil)⟩ (by decide) (fun j hj T kV dc pm an cd ct us its hu hi => by
      match j, us, its, hj, hu, hi with
      | 0, [_], [_], _, _, _ => exact ⟨_, rfl, rfl⟩
      | 1, [_, _], [_], _, _, _ => exact ⟨_, rfl, rfl⟩)
    d_plus := defT_mk (PySem.W.mg_of X G a2) l2 c2 k2 (fun _ _ _ _ _ _ us hl => match us, hl with | [_, _], _ => rfl)
    d_cost := defT_mk (PySem.W.mg_of X G a3) l3 c3 k3 (fun _ _ _ _ _ _ us hl => match us, hl with | [_], _ => rfl)
    d_ascending_rows := defT_mk (PySem.W.mg_of X G a4) l4 c4 k4 (fun _ _ _ _ _ _ us hl => match us, hl with | [_, _, _], _ => rfl)
    d_all_signatures := defT_mk (PySem.W.mg_of X G a5) l5 c5 k5 (fun _ _ _ _ _ _ us hl => match us, hl with | [], _ => rfl)
    d__law_cell := defT_mk (PySem.W.mg_of X G a6) l6 c6 k6 (fun _ _ _ _ _ _ us hl => match us, hl with | [_, _], _ => rfl)
    d__law_numbers := defT_mk (PySem.W.mg_of X G a7) l7 c7 k7 (fun _ _ _ _ _ _ us hl => match us, hl with | [_, _], _ => rfl)
    d__law_same := defT_mk (PySem.W.mg_of X G a8) l8 c8 k8 (fun _ _ _ _ _ _ us hl => match us, hl with | [_, _], _ => rfl)
    d__law_gcd := defT_mk (PySem.W.mg_of X G a9) l9 c9 k9 (fun _ _ _ _ _ _ us hl => match us, hl with | [_, _], _ => rfl)
    d__law_frac := defT_mk (PySem.W.mg_of X G a10) l10 c10 k10 (fun _ _ _ _ _ _ us hl => match us, hl with | [_, _], _ => rfl)
    d__law_add := defT_mk (PySem.W.mg_of X G a11) l11 c11 k11 (fun _ _ _ _ _ _ us hl => match us, hl with | [_, _], _ => rfl)
    d__law_price := defT_mk (PySem.W.mg_of X G a12) l12 c12 k12 (fun _ _ _ _ _ _ us hl => match us, hl with | [_, _], _ => rfl)
    d__law_rows := defT_mk (PySem.W.mg_of X G a13) l13 c13 k13 (fun _ _ _ _ _ _ us hl => match us, hl with | [], _ => rfl)
    d__law_all := defT_mk (PySem.W.mg_of X G a14) l14 c14 k14 (fun _ _ _ _ _ _ us hl => match us, hl with | [], _ => rfl)
    d_law := defT_mk (PySem.W.mg_of X G a15) l15 c15 k15 (fun _ _ _ _ _ _ us hl => match us, hl with | [_], _ => rfl)
    m_abs := PySem.W.mg_none_of X G z0
    m_bool := PySem.W.mg_none_of X G z1
    m_int := PySem.W.mg_none_of X G z2
    m_isinstance := PySem.W.mg_none_of X G z3
    m_len := PySem.W.mg_none_of X G z4
    m_list := PySem.W.mg_none_of X G z5
    m_range := PySem.W.mg_none_of X G z6
    m_sorted := PySem.W.mg_none_of X G z7
    m_str := PySem.W.mg_none_of X G z8
    m_sum := PySem.W.mg_none_of X G z9
    m_tuple := PySem.W.mg_none_of X G z10
    c_UNIT := ⟨(.int 120), _, PySem.W.mg_of X G aK_UNIT, ⟨_, rfl⟩, ((fun _ => Rep.int _))⟩
  }
  refine law_fin hfa T.d_law (fun f fd F s u => F.bindsA (ps := ["script"]) (fun _ _ _ _ _ _ us hl => match us, hl with | [_], _ => rfl) s [u] rfl) fun base hK hN f fd F => ?_
  have C__law_gcd := cal__law_gcd (P := l.prog) (w := w) (base := base) T 
  have C__law_frac := cal__law_frac (P := l.prog) (w := w) (base := base) T C__law_gcd
  have C__law_add := cal__law_add (P := l.prog) (w := w) (base := base) T C__law_frac
  have C__law_rows := cal__law_rows (P := l.prog) (w := w) (base := base) T 
  have C__law_all := cal__law_all (P := l.prog) (w := w) (base := base) T C__law_rows
  have C__law_cell := cal__law_cell (P := l.prog) (w := w) (base := base) T 
  have C__law_numbers := cal__law_numbers (P := l.prog) (w := w) (base := base) T 
  have C__law_price := cal__law_price (P := l.prog) (w := w) (base := base) T C__law_add C__law_frac
  have C__law_same := cal__law_same (P := l.prog) (w := w) (base := base) T 
  have C_ascending_rows := cal_ascending_rows (P := l.prog) (w := w) (base := base) T 
  have C_all_signatures := cal_all_signatures (P := l.prog) (w := w) (base := base) T C_ascending_rows
  have C_common_divisor := cal_common_divisor (P := l.prog) (w := w) (base := base) T 
  have C_fraction_1 := cal_fraction_1 (P := l.prog) (w := w) (base := base) T C_common_divisor
  have C_fraction := cal_fraction (P := l.prog) (w := w) (base := base) T C_common_divisor
  have C_plus := cal_plus (P := l.prog) (w := w) (base := base) T C_fraction
  have C_cost := cal_cost (P := l.prog) (w := w) (base := base) T C_fraction_1 C_fraction C_plus
  exact TG.FunD.okD F (k := 9) sc_law (fun ds Q h => by obtain ⟨x, rfl, _⟩ := h; rfl) fun f cdv A outer s H hr ds Q hS => body_law T C__law_add C__law_all C__law_cell C__law_numbers C__law_price C__law_same C_all_signatures C_cost hr ds Q hS
end
end My
open PySem PySem.W PyProof.Rows
set_option maxHeartbeats 0 in
theorem PySem.Challenge.cw_tilesglued_k09_costs_and_signatures_holds : PySem.Challenge.rw_tilesglued_k09_costs_and_signatures.Holds := by
  w_on; o_law; k_head; (case hw => w_witness2)
  k_fill
  refine L2.walk_ofK (l := PySem.Challenge.rw_tilesglued_k09_costs_and_signatures) (n := 63) (k := 10) (x := "script") (CX := L2.CX0) (sp := fun K => TG.spOf K TG.lawS) rfl (by decide) rfl ⟨rfl, by decide, by decide⟩ (fun w h Y => PySem.W.kIn_of Y) ?F (fun K H a ns hl ho hS => TG.law_sp K H a ns hl (fun x hx => by cases hx) hS) (fun _ _ _ _ h => h)
  case F =>
    intro w mg fa h KX G hmg
    refine' My.all_mk KX G hmg ?aK_UNIT ?a0 ?l0 ?c0 ?k0 ?a1 ?l1 ?t1 ?c1 ?k1 ?a2 ?l2 ?c2 ?k2 ?a3 ?l3 ?c3 ?k3 ?a4 ?l4 ?c4 ?k4 ?a5 ?l5 ?c5 ?k5 ?a6 ?l6 ?c6 ?k6 ?a7 ?l7 ?c7 ?k7 ?a8 ?l8 ?c8 ?k8 ?a9 ?l9 ?c9 ?k9 ?a10 ?l10 ?c10 ?k10 ?a11 ?l11 ?c11 ?k11 ?a12 ?l12 ?c12 ?k12 ?a13 ?l13 ?c13 ?k13 ?a14 ?l14 ?c14 ?k14 ?a15 ?l15 ?c15 ?k15 ?z0 ?z1 ?z2 ?z3 ?z4 ?z5 ?z6 ?z7 ?z8 ?z9 ?z10
    (case aK_UNIT => k_is)
    (case a0 => k_is)
    (case a1 => k_is)
    (case a2 => k_is)
    (case a3 => k_is)
    (case a4 => k_is)
    (case a5 => k_is)
    (case a6 => k_is)
    (case a7 => k_is)
    (case a8 => k_is)
    (case a9 => k_is)
    (case a10 => k_is)
    (case a11 => k_is)
    (case a12 => k_is)
    (case a13 => k_is)
    (case a14 => k_is)
    (case a15 => k_is)
    (case l0 => k_is)
    (case l1 => k_is)
    (case l2 => k_is)
    (case l3 => k_is)
    (case l4 => k_is)
    (case l5 => k_is)
    (case l6 => k_is)
    (case l7 => k_is)
    (case l8 => k_is)
    (case l9 => k_is)
    (case l10 => k_is)
    (case l11 => k_is)
    (case l12 => k_is)
    (case l13 => k_is)
    (case l14 => k_is)
    (case l15 => k_is)
    (case t1 => k_is)
    (case c0 => k_is)
    (case k0 => k_is)
    (case c1 => k_is)
    (case k1 => k_is)
    (case c2 => k_is)
    (case k2 => k_is)
    (case c3 => k_is)
    (case k3 => k_is)
    (case c4 => k_is)
    (case k4 => k_is)
    (case c5 => k_is)
    (case k5 => k_is)
    (case c6 => k_is)
    (case k6 => k_is)
    (case c7 => k_is)
    (case k7 => k_is)
    (case c8 => k_is)
    (case k8 => k_is)
    (case c9 => k_is)
    (case k9 => k_is)
    (case c10 => k_is)
    (case k10 => k_is)
    (case c11 => k_is)
    (case k11 => k_is)
    (case c12 => k_is)
    (case k12 => k_is)
    (case c13 => k_is)
    (case k13 => k_is)
    (case c14 => k_is)
    (case k14 => k_is)
    (case c15 => k_is)
    (case k15 => k_is)
    (case z0 => k_is)
    (case z1 => k_is)
    (case z2 => k_is)
    (case z3 => k_is)
    (case z4 => k_is)
    (case z5 => k_is)
    (case z6 => k_is)
    (case z7 => k_is)
    (case z8 => k_is)
    (case z9 => k_is)
    (case z10 => k_is)
